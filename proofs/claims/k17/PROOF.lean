import PyProof.Rows.All
import Wide.All
import OpenK.AllK
import Wide.FinOn
import HandS.ForMost
import HandS.IsInst
import HandS.Style
import HandS.Wide
import HandS.Evl
import HandS.Zip
import HandS.SortKw
import HandS.Conv
import HandS.TupLe
import HandS.RaiseMore
import KE.KSuper
import HandS.Nested
import HandS.Defaults
import HandS.SetFor
import HandS.Strs
import HandS.Property
import HandS.DictComp
import HandS.ListItems
import HandS.DictTup
import HandS.SortRule
import KE.KCallOwn
import HandS.ExcIs
import HandS.ExcValue
import HandS.TryOnly
import HandS.HotCalls
import HandS.WordsExc
import HandS.Hot
import HandS.ExcCtx
import HandS.Comp
import HandS.ExcOwn
import HandS.CallSlots
import HandS.MakeKwOnly
import HandS.Star
import HandS.TupAny
import HandS.Dict
import HandS.FStr
import HandS.Text
import PyProof.StrBlock2
import PyProof.Rows.StrIntSpec
import PyProof.FString3
import PySem.Challenge.RW_breadcrumbs_k17_visits_at_once
set_option Elab.async false
set_option linter.all false
set_option maxRecDepth 100000
set_option maxHeartbeats 4000000
namespace BC
open PySem PySem.Spec PyProof.Rows L2
section
variable {X : Cx}
/-- a power of a number of any size that matters here -/
def CPowX (i j : Int) : Prop := 0 ≤ j ∧ j ≤ 1000 ∧ i.natAbs.log2 < 100000
theorem op_powX : OpR X (binaryOp .Pow) (rI CPowX fun i j => .int (i ^ j.toNat)) := opI fun i j _ _ _ _ _ hc q => by
  obtain ⟨h0, h1, h2⟩ := hc
  refine pow_int h0 ?_ q
  have hb : Builtin.Int.intBits i ≤ 100000 := by
    unfold Builtin.Int.intBits
    split <;> omega
  have h3 : (Builtin.Int.intBits i : Int) * j ≤ 100000 * j := Int.mul_le_mul_of_nonneg_right (by omega) h0
  omega
/-- a product: one factor small, or both of bounded size -/
def CMulX (i j : Int) : Prop := CMul i j ∨ CMulW i j
theorem op_mulX : OpR X (binaryOp .Mult) (rI CMulX fun i j => .int (i * j)) := opI fun _ _ _ _ _ _ _ hc q => by
  rcases hc with hc | hc
  · exact mul_int q hc.ok
  · exact mul_int q hc.ok
theorem op_fdivX : OpR X (binaryOp .FloorDiv) (rI CDivW fun i j => .int (i / j)) := op_fdivW
theorem op_modX : OpR X (binaryOp .Mod) (rI (fun _ j => 0 < j) fun i j => .int (i % j)) := opI fun i j _ _ _ _ _ hc q => by
  refine mod_int' (show j ≠ 0 by omega) ?_
  rw [Int.fmod_eq_emod_of_nonneg i (by omega)]
  exact q
def ipC (C : Int → Int → Prop) (f : Int → Int → Int) : TIp := fun x y H Q => ∃ i j, x = .int i ∧ y = .int j ∧ C i j ∧ Q (.int (f i j)) H
theorem ip_mulX : PIp X .Mult (ipC CMulX fun i j => i * j) := by
  intro pins s σ H x y v u Q I r1 r2 h
  obtain ⟨i, j, rfl, rfl, hc, q⟩ := h
  obtain ⟨t, rfl⟩ := r1
  obtain ⟨t', rfl⟩ := r2
  have ok : IntMulOk i j := by
    rcases hc with hc | hc
    · exact hc.ok
    · exact hc.ok
  exact imul_int ⟨.int (i * j), H, I.tok _, ⟨_, rfl⟩, q⟩ ok
end
end BC

/-! ### readings opened one construct at a time: full applications alone, so that what stands in a loop is left closed -/
namespace BC
open PySem PySem.Spec PyProof.Rows L2
section
variable {K : PySem.W.Frag} {σ : L2.St} {H : Hp} {Q : VK} {QT : Bool → Hp → Prop} {QA : List V → Hp → Prop} {D : Ends} {ta tb tc : TE} {t u : TT} {a : TA} {r r' : R2} {i j : Nat} {v x y : V} {s1 s2 : TS} {g : TG} {QG : L2.St → Hp → Prop}
def LoopG (J : It) (g : TG) (tb : TS) : TS := fun D σ H => ∃ W : Nat → Nat → L2.St → Hp → Prop, (∃ m, W 0 m σ H) ∧ ∀ i m σ H, W i m σ H →
  (J.stop i H ∧ D.nx σ H) ∨ (J.go i H ∧ ∃ N : L2.St → Hp → Prop, (∀ σ' H', N σ' H' → ∃ m', m' < m ∧ W (i + 1) m' σ' H') ∧ ∀ x H', J.yld i H x H' → g x σ H' fun σ2 H2 => tb { D with nx := N, ct := N, bk := D.nx } σ2 H2)
def LcG (J : It) (g : TG) (tt : TT) (te : TE) (vs : List Nat) (σ : L2.St) (Dl : Addr) (H1 : Hp) (Q : VK) : Prop := ∃ W : Nat → Nat → Hp → Prop, (∃ m, W 0 m (upd H1 Dl (.lst []))) ∧ ∀ i m H, W i m H →
  (J.stop i H ∧ Q (.ref Dl) H) ∨ (J.go i H ∧ ∃ Nx : Hp → Prop, (∀ H', Nx H' → ∃ m', m' < m ∧ W (i + 1) m' H') ∧ ∀ x H', J.yld i H x H' → g x (wipe σ vs) H' fun σ2 H2 => wipe σ2 vs = wipe σ vs ∧ tt σ2 H2 fun b H3 =>
    if b = true then te σ2 H3 fun y H4 => ∃ acc, H4 Dl = some (.lst acc) ∧ acc.length < sizeLine ∧ Nx (upd H4 Dl (.lst (acc ++ [y]))) else Nx H3)
theorem x_seq : tSeq s1 s2 D σ H = s1 { D with nx := s2 D } σ H := rfl
theorem x_next : tNext D σ H = D.nx σ H := rfl
theorem x_brk : tBreak D σ H = D.bk σ H := rfl
theorem x_cnt : tCont D σ H = D.ct σ H := rfl
theorem x_nev : tNever D σ H = False := rfl
theorem x_ret : tRet ta D σ H = ta σ H D.rt := rfl
theorem x_retN : tRetN D σ H = D.rt .non H := rfl
theorem x_drop : tDrop ta D σ H = ta σ H (fun _ H1 => D.nx σ H1) := rfl
theorem x_ifS : tIfS t s1 s2 D σ H = t σ H (fun b H1 => if b = true then s1 D σ H1 else s2 D σ H1) := rfl
theorem x_asg : tAsg ta g D σ H = ta σ H (fun x H1 => g x σ H1 D.nx) := rfl
theorem x_gn : gName i v σ H QG = QG (σ.set i (some v)) H := rfl
theorem x_gsub {o ix : TE} {st : TSet} : gSub o ix st v σ H QG = o σ H (fun o H1 => ix σ H1 fun i H2 => st o i v H2 fun H3 => QG σ H3) := rfl
theorem x_par : tPar i j a D σ H = a σ H (fun vs H1 => ∃ v w, vs = [v, w] ∧ D.nx ((σ.set i (some v)).set j (some w)) H1) := rfl
theorem x_par3 {l : Nat} : tPar3 i j l a D σ H = a σ H (fun vs H1 => ∃ u v w, vs = [u, v, w] ∧ D.nx (((σ.set i (some u)).set j (some v)).set l (some w)) H1) := rfl
theorem x_aug {ti : TIp} : tAug i ta ti D σ H = ∃ x, σ[i]? = some (some x) ∧ ta σ H fun y H1 => ti x y H1 fun z H2 => D.nx (σ.set i (some z)) H2 := rfl
theorem x_for {wi : TI} : tFor wi g s1 D σ H = wi σ H (fun J H1 => LoopG J g s1 D σ H1) := rfl
theorem x_lc {wi : TI} {vs : List Nat} : tLc wi g t ta vs σ H Q = wi σ H (fun J H1 => ∀ Dl, H1 Dl = none → LcG J g t ta vs σ Dl H1 Q) := rfl
theorem x_rng1 {R : It → Hp → Prop} : iRng1 a σ H R = a σ H (fun vs H1 => ∃ j : Int, vs = [.int j] ∧ -(2 ^ 62) ≤ j ∧ j < 2 ^ 62 ∧ R (Itr 0 j.toNat) H1) := rfl
theorem x_rng2 {R : It → Hp → Prop} : iRng2 a σ H R = a σ H (fun vs H1 => ∃ i j : Int, vs = [.int i, .int j] ∧ (-(2 ^ 62) ≤ i ∧ i < 2 ^ 62 ∧ -(2 ^ 62) ≤ j ∧ j < 2 ^ 62) ∧ R (Itr i (j - i).toNat) H1) := rfl
theorem x_rng3 {R : It → Hp → Prop} : iRng3 a σ H R = a σ H (fun vs H1 => ∃ (i j c : Int) (n : Nat), vs = [.int i, .int j, .int c] ∧ RgC i j c n ∧ R (Itc i c n) H1) := rfl
theorem x_ilist {R : It → Hp → Prop} : iList K ta σ H R = ta σ H (fun x H1 => ∃ a, x = .ref a ∧ (∃ xs, SqL K H1 a xs) ∧ R (Itl K a) H1) := rfl
theorem x_itup {R : It → Hp → Prop} : iTup K ta σ H R = ta σ H (fun x H1 => ∃ a, x = .ref a ∧ (∃ xs, SqT K H1 a xs) ∧ R (Itt K a) H1) := rfl
theorem x_ienum {R : It → Hp → Prop} : iEnum K a σ H R = a σ H (fun vs H1 => ∃ a xs, vs = [.ref a] ∧ SqL K H1 a xs ∧ R (Ite K a) H1) := rfl
theorem x_izip {R : It → Hp → Prop} : iZip K a σ H R = a σ H (fun vs H1 => ∃ a b xs ys, vs = [.ref a, .ref b] ∧ SqL K H1 a xs ∧ SqL K H1 b ys ∧ R (Itz K a b) H1) := rfl
theorem x_istr {R : It → Hp → Prop} : iStr ta σ H R = ta σ H (fun v H1 => ∃ x, v = .str x ∧ R (Its x) H1) := rfl
theorem x_var : tVar i σ H Q = ∃ v, σ[i]? = some (some v) ∧ Q v H := rfl
theorem x_c : tC v σ H Q = Q v H := rfl
theorem x_op : tOp r ta tb σ H Q = ta σ H (fun x H1 => tb σ H1 fun y H2 => r x y H2 Q) := rfl
theorem x_un {ru : V → Hp → VK → Prop} : tUn ru ta σ H Q = ta σ H (fun x H1 => ru x H1 Q) := rfl
theorem x_test : tTest ta σ H QT = ta σ H (fun x H' => ∃ k, x = .bl k ∧ QT k H') := rfl
theorem x_b : tB ta σ H QT = ta σ H (fun x H' => ∃ k, x = .bl k ∧ QT k H') := rfl
theorem x_chain : tChain r r' ta tb tc σ H Q = ta σ H (fun x H1 => tb σ H1 fun y H2 => r x y H2 fun z H3 => ∃ k, z = .bl k ∧ (if k = true then tc σ H3 fun w' H4 => r' y w' H4 Q else Q (.bl false) H3)) := rfl
theorem x_and : tAnd t u σ H QT = t σ H (fun c H1 => if c = true then u σ H1 QT else QT false H1) := rfl
theorem x_or : tOr t u σ H QT = t σ H (fun c H1 => if c = true then QT true H1 else u σ H1 QT) := rfl
theorem x_not : tNot t σ H QT = t σ H (fun c H1 => QT (!c) H1) := rfl
theorem x_andV : tAndV ta tb σ H Q = ta σ H (fun x H1 => ∃ c, x = .bl c ∧ if c = true then tb σ H1 Q else Q (.bl false) H1) := rfl
theorem x_orV : tOrV ta tb σ H Q = ta σ H (fun x H1 => ∃ c, x = .bl c ∧ if c = true then Q (.bl true) H1 else tb σ H1 Q) := rfl
theorem x_notV : tNotV ta σ H Q = ta σ H (fun x H1 => ∃ c, x = .bl c ∧ Q (.bl (!c)) H1) := rfl
theorem x_ife : tIf t ta tb σ H Q = t σ H (fun c H1 => if c = true then ta σ H1 Q else tb σ H1 Q) := rfl
theorem x_nil : tNil σ H QA = QA [] H := rfl
theorem x_cons {rest : TA} : tCons ta rest σ H QA = ta σ H (fun x H1 => rest σ H1 fun xs H2 => QA (x :: xs) H2) := rfl
theorem x_lst : tLst a σ H Q = a σ H (fun xs H1 => xs.length ≤ sizeLine ∧ ∀ p, H1 p = none → Q (.ref p) (upd H1 p (.lst xs))) := rfl
theorem x_tup : tTup a σ H Q = a σ H (fun xs H1 => xs.length ≤ sizeLine ∧ ∀ p, H1 p = none → Q (.ref p) (upd H1 p (.tup xs))) := rfl
theorem x_cb {rc : List V → Hp → VK → Prop} : tCB rc a σ H Q = a σ H (fun vs H1 => rc vs H1 Q) := rfl
theorem x_call {sp : Sp} {dvs : List V} {E : XK} : tCall sp dvs E a σ H Q = a σ H (fun vs H1 => sp (vs ++ dvs) H1 Q E) := rfl
theorem x_callK {sp : Sp} {gV : List V → List V → List V} {E : XK} {b : TA} : tCallK sp gV E a b σ H Q = a σ H (fun vs H1 => b σ H1 fun zs H2 => sp (gV vs zs) H2 Q E) := rfl
theorem x_bm {T : String} {rm : V → List V → Hp → VK → Prop} : tBM K T rm ta a σ H Q = ta σ H (fun x H1 => tyV K T x H1 ∧ a σ H1 fun xs H2 => rm x xs H2 Q) := rfl
theorem x_bm0 {T : String} {rm : V → List V → Hp → VK → Prop} : tBM0 K T rm ta σ H Q = ta σ H (fun x H1 => tyV K T x H1 ∧ rm x [] H1 Q) := rfl
theorem x_sl {rs : V → Option Int → Option Int → Hp → VK → Prop} {tl th : TO} : tSl rs ta tl th σ H Q = ta σ H (fun x H1 => tl σ H1 fun l H2 => th σ H2 fun u H3 => rs x l u H3 Q) := rfl
theorem x_nopart {QO : Option Int → Hp → Prop} : tNoPart σ H QO = QO none H := rfl
theorem x_part {QO : Option Int → Hp → Prop} : tPart ta σ H QO = ta σ H (fun x H1 => ∃ i, x = .int i ∧ QO (some i) H1) := rfl
theorem x_revL : tRevL K ta σ H Q = ta σ H (fun x H1 => ∃ a xs, x = .ref a ∧ SqL K H1 a xs ∧ ∀ p, H1 p = none → Q (.ref p) (upd H1 p (.lst xs.reverse))) := rfl
theorem x_I0 {f : Int → Int → V} {m n : Int} : rI0 f (.int m) (.int n) H Q ↔ Q (f m n) H := ⟨fun ⟨i, j, e1, e2, q⟩ => by cases e1; cases e2; exact q, fun q => ⟨m, n, rfl, rfl, q⟩⟩
theorem x_I {C : Int → Int → Prop} {f : Int → Int → V} {m n : Int} : rI C f (.int m) (.int n) H Q ↔ C m n ∧ Q (f m n) H := ⟨fun ⟨i, j, e1, e2, q⟩ => by cases e1; cases e2; exact q, fun q => ⟨m, n, rfl, rfl, q⟩⟩
theorem x_U {f : Int → V} {m : Int} : rU f (.int m) H Q ↔ Q (f m) H := ⟨fun ⟨i, e1, q⟩ => by cases e1; exact q, fun q => ⟨m, rfl, q⟩⟩
theorem x_ip {f : Int → Int → Int} {m n : Int} : ipI f (.int m) (.int n) H Q ↔ Q (.int (f m n)) H := ⟨fun ⟨i, j, e1, e2, q⟩ => by cases e1; cases e2; exact q, fun q => ⟨m, n, rfl, rfl, q⟩⟩
theorem x_ipC {C : Int → Int → Prop} {f : Int → Int → Int} {m n : Int} : ipC C f (.int m) (.int n) H Q ↔ C m n ∧ Q (.int (f m n)) H := ⟨fun ⟨i, j, e1, e2, q⟩ => by cases e1; cases e2; exact q, fun q => ⟨m, n, rfl, rfl, q⟩⟩
theorem x_eqI {m n : Int} : rEq (.int m) (.int n) H Q ↔ Q (.bl (decide (m = n))) H := by
  unfold rEq
  rw [show scal (V.int m) (V.int n) = true from rfl]
  by_cases e : m = n
  · subst e; simp
  · simp [e]
theorem x_neI {m n : Int} : rNe (.int m) (.int n) H Q ↔ Q (.bl (!decide (m = n))) H := by
  unfold rNe
  rw [show scal (V.int m) (V.int n) = true from rfl]
  by_cases e : m = n
  · subst e; simp
  · simp [e]
end
/-! ### the rules that speak of the written part, by its own name -/
section
variable {X : Cx} {K : PySem.W.Frag}
theorem k_pi_list {tg l : Expr} {tl : TE} (hK : X.K = K) (hl : PE X l tl) : PI X tg l (iList K tl) := by subst hK; exact pi_list hl
theorem k_pi_tup {tg l : Expr} {tl : TE} (hK : X.K = K) (hl : PE X l tl) : PI X tg l (iTup K tl) := by subst hK; exact pi_tup hl
theorem k_pi_enum {e : Expr} {ta : TA} {p pos tpos : Pos} {elts : List Expr} {kk : Nat} (hK : X.K = K) (hg : Gl X "enumerate") (hm : X.mg "enumerate" = none) (ha : PA X [e] ta) (hs : starEach [e] X.env = [(false, eval e X.env)] := by rfl) : PI X (.Tuple elts kk tpos) (.Call (.Name "enumerate" p) [e] [] pos) (iEnum K ta) := by subst hK; exact pi_enum hg hm ha hs
theorem k_pi_zip {e e2 : Expr} {ta : TA} {p pos tpos : Pos} {elts : List Expr} {kk : Nat} (hK : X.K = K) (hg : Gl X "zip") (hm : X.mg "zip" = none) (ha : PA X [e, e2] ta)
    (hs : starEach [e, e2] X.env = (false, eval e X.env) :: starEach [e2] X.env := by rfl) (hpl : (backTo pos (starEach [e2] X.env)).any (·.1) = false := by rfl) : PI X (.Tuple elts kk tpos) (.Call (.Name "zip" p) [e, e2] [] pos) (iZip K ta) := by subst hK; exact pi_zip hg hm ha hs hpl
theorem k_ix_list (hK : X.K = K) : IxR X (rIxL K) := by subst hK; exact ix_list
theorem k_ix_tup (hK : X.K = K) : IxR X (rIxT K) := by subst hK; exact ix_tup
theorem k_sl_list (hK : X.K = K) : SlR X (rSlL K) := by subst hK; exact sl_list
theorem k_in (hK : X.K = K) : OpR X (compareOp .In) (rIn K false) := by subst hK; exact op_in_seq
theorem k_notIn (hK : X.K = K) : OpR X (compareOp .NotIn) (rIn K true) := by subst hK; exact op_notIn_seq
theorem k_eqD (hK : X.K = K) (hu : X.A.units + 64 < cLine) : OpR X (compareOp .Eq) (rEqD K) := by subst hK; exact op_eqD hu
theorem k_neD (hK : X.K = K) (hu : X.A.units + 64 < cLine) : OpR X (compareOp .NotEq) (rNeD K) := by subst hK; exact op_neD hu
def rLen (K : PySem.W.Frag) : List V → Hp → VK → Prop := fun xs H Q => ∃ p ys, xs = [.ref p] ∧ (SqL K H p ys ∨ SqT K H p ys) ∧ Q (.int ys.length) H
def rListOf (K : PySem.W.Frag) : List V → Hp → VK → Prop := fun xs H Q => ∃ p ys, xs = [.ref p] ∧ (SqL K H p ys ∨ SqT K H p ys) ∧ ∀ l, H l = none → Q (.ref l) (upd H l (.lst ys))
def rTupOf (K : PySem.W.Frag) : List V → Hp → VK → Prop := fun xs H Q => ∃ p ys, xs = [.ref p] ∧ ((SqL K H p ys ∧ ∀ l, H l = none → Q (.ref l) (upd H l (.tup ys))) ∨ (SqT K H p ys ∧ Q (.ref p) H))
theorem k_len (hK : X.K = K) : CallR X (.builtin "len") (rLen K) := by subst hK; exact call_len_seq
theorem k_listOf (hK : X.K = K) : CallR X (.type "list") (rListOf K) := by subst hK; exact call_list_of
theorem k_tupOf (hK : X.K = K) : CallR X (.type "tuple") (rTupOf K) := by subst hK; exact call_tuple_of
theorem k_isi (hK : X.K = K) : CallR X (.builtin "isinstance") (rIsi K) := by subst hK; exact call_isi
theorem k_sum (hK : X.K = K) (hc : X.calm = true) : CallR X (.builtin "sum") (rSum K) := by subst hK; exact cr_sum hc
theorem k_all (hK : X.K = K) (hc : X.calm = true) : CallR X (.builtin "all") (rAll K) := by subst hK; exact cr_all hc
theorem k_any (hK : X.K = K) (hc : X.calm = true) : CallR X (.builtin "any") (rAny K) := by subst hK; exact cr_any hc
theorem k_sorted (hK : X.K = K) : CallR X (.builtin "sorted") (rSorted K) := by subst hK; exact cr_sorted
def tTruK (K : PySem.W.Frag) (ta : TE) : TT := fun σ H Q => ta σ H fun x H' => ∃ k, TruV K x H' k ∧ Q k H'
theorem k_truth {a : Expr} {ta : TE} (hK : X.K = K) (ha : PE X a ta) (he : ∀ whole, isTrue a X.env whole = (do let v ← whole; standAt a.pos; holding [v] (truthy v))) : PT X a (tTruK K ta) := by subst hK; exact pt_truth ha he
theorem k_tup {es : List Expr} {k n : Nat} {pos : Pos} {t : TGs} (hK : X.K = K) (hc : X.calm = true) (h : PGs X es t)
    (hn : (assignEach es X.env).length = n := by rfl) (hst : (assignEach es X.env).findIdx? (·.1) = none := by rfl) : PG X (.Tuple es k pos) (gTup K n t) := by subst hK; exact pg_tup hc h hn hst
theorem k_bm0 {T : String} {to : TE} {r : V → List V → Hp → VK → Prop} {e : Expr} (hK : X.K = K) (h : PE X e (tBM0 X.K T r to)) : PE X e (tBM0 K T r to) := by subst hK; exact h
theorem k_bm {T : String} {to : TE} {ta : TA} {r : V → List V → Hp → VK → Prop} {e : Expr} (hK : X.K = K) (h : PE X e (tBM X.K T r to ta)) : PE X e (tBM K T r to ta) := by subst hK; exact h
theorem k_rev {e : Expr} {te : TE} {k : Nat} {p1 p2 p3 pos : Pos} (hK : X.K = K) (he : PE X e te) : PE X (.Subscript e (.Slice none none (some (.UnaryOp .USub (.Constant (.int 1) k p1) p2)) p3) pos) (tRevL K te) := by subst hK; exact pe_revL he
theorem k_index (hK : X.K = K) : MtR X "list.index" (rIndex K) := by subst hK; exact mt_index
end
section
variable {K : PySem.W.Frag} {σ : L2.St} {H : Hp} {ta : TE} {QT : Bool → Hp → Prop}
theorem x_tru : tTruK K ta σ H QT = ta σ H (fun x H' => ∃ k, TruV K x H' k ∧ QT k H') := rfl
end
/-! ### loops -/
section
variable {K : PySem.W.Frag} {σ : L2.St} {H : Hp} {D : Ends} {g : TG} {tb : TS}
theorem lg_rng {lo : Int} {n : Nat} (Pv : Nat → L2.St → Hp → Prop) (h0 : Pv 0 σ H)
    (hs : ∀ i σ H, i < n → Pv i σ H → g (.int (lo + i)) σ H fun σ2 H2 => tb { D with nx := Pv (i + 1), ct := Pv (i + 1), bk := D.nx } σ2 H2) (hd : ∀ σ H, Pv n σ H → D.nx σ H) : LoopG (Itr lo n) g tb D σ H := for_range Pv h0 hs hd
theorem lg_rngC {lo c : Int} {n : Nat} (Pv : Nat → L2.St → Hp → Prop) (h0 : Pv 0 σ H)
    (hs : ∀ i σ H, i < n → Pv i σ H → g (.int (lo + (i : Nat) * c)) σ H fun σ2 H2 => tb { D with nx := Pv (i + 1), ct := Pv (i + 1), bk := D.nx } σ2 H2) (hd : ∀ σ H, Pv n σ H → D.nx σ H) : LoopG (Itc lo c n) g tb D σ H := for_rangeC Pv h0 hs hd
theorem lg_list {a : Addr} {xs : List V} (Pv : Nat → L2.St → Hp → Prop) (h0 : Pv 0 σ H) (hl : ∀ i σ H, i ≤ xs.length → Pv i σ H → SqL K H a xs)
    (hs : ∀ i x σ H, xs[i]? = some x → Pv i σ H → g x σ H fun σ2 H2 => tb { D with nx := Pv (i + 1), ct := Pv (i + 1), bk := D.nx } σ2 H2) (hd : ∀ σ H, Pv xs.length σ H → D.nx σ H) : LoopG (Itl K a) g tb D σ H := for_list Pv h0 hl hs hd
/-- enumerate over a list that stands still: each pair is a new tuple -/
theorem lg_enum {a : Addr} {xs : List V} (Pv : Nat → L2.St → Hp → Prop) (h0 : Pv 0 σ H) (hl : ∀ i σ H, i ≤ xs.length → Pv i σ H → SqL K H a xs)
    (hs : ∀ i x σ H T, xs[i]? = some x → Pv i σ H → H T = none → g (.ref T) σ (upd H T (.tup [.int (i : Nat), x])) fun σ2 H2 => tb { D with nx := Pv (i + 1), ct := Pv (i + 1), bk := D.nx } σ2 H2) (hd : ∀ σ H, Pv xs.length σ H → D.nx σ H) : LoopG (Ite K a) g tb D σ H := by
  refine ⟨fun i m σ H => m = xs.length - i ∧ i ≤ xs.length ∧ Pv i σ H, ⟨xs.length, by simp, Nat.zero_le _, h0⟩, ?_⟩
  rintro i m σ H ⟨rfl, hi, p⟩
  have q := hl i σ H hi p
  by_cases hlt : i < xs.length
  · refine .inr ⟨⟨xs, xs[i], q, by simp [hlt]⟩, Pv (i + 1), fun σ' H' p' => ⟨xs.length - (i + 1), by omega, rfl, hlt, p'⟩, fun x H' y => ?_⟩
    obtain ⟨T, x', rfl, hT, rfl, f⟩ := y
    exact hs i x' σ H T (f xs q) p hT
  · have e : i = xs.length := by omega
    subst e
    exact .inl ⟨⟨xs, q, Nat.le_refl _⟩, hd σ H p⟩
/-- a pair unpacked -/
theorem g_two {i j : Nat} {T : Addr} {x y : V} {QG : L2.St → Hp → Prop} (h : H T = some (.tup [x, y])) (q : QG ((σ.set i (some x)).set j (some y)) H) : gTup K 2 (gCons (gName i) (gCons (gName j) gNil)) (.ref T) σ H QG :=
  ⟨T, [x, y], rfl, .inl (.inl h), rfl, x, [y], rfl, y, [], rfl, rfl, q⟩
end
/-! ### comprehensions over lists whose elements are given by a function of the turn -/
section
variable {K : PySem.W.Frag} {σ : L2.St} {H1 : Hp} {g : TG} {tt : TT} {te : TE} {vs : List Nat} {Dl : Addr} {Q : VK}
theorem lc_g (n : Nat) {J : It} (Pv : Nat → Hp → Prop) (h0 : Pv 0 (upd H1 Dl (.lst []))) (hst : ∀ H, Pv n H → J.stop n H) (hgo : ∀ i H, i < n → Pv i H → J.go i H)
    (hs : ∀ i H x H', i < n → Pv i H → J.yld i H x H' → g x (wipe σ vs) H' fun σ2 H2 => wipe σ2 vs = wipe σ vs ∧ tt σ2 H2 fun b H3 =>
      if b = true then te σ2 H3 fun y H4 => ∃ acc, H4 Dl = some (.lst acc) ∧ acc.length < sizeLine ∧ Pv (i + 1) (upd H4 Dl (.lst (acc ++ [y]))) else Pv (i + 1) H3) (hd : ∀ H, Pv n H → Q (.ref Dl) H) : LcG J g tt te vs σ Dl H1 Q := by
  refine ⟨fun i m H => m = n - i ∧ i ≤ n ∧ Pv i H, ⟨n, by simp, Nat.zero_le _, h0⟩, ?_⟩
  rintro i m H ⟨rfl, hi, p⟩
  by_cases hlt : i < n
  · exact .inr ⟨hgo i H hlt p, Pv (i + 1), fun H' p' => ⟨n - (i + 1), by omega, rfl, hlt, p'⟩, fun x H' y => hs i H x H' hlt p y⟩
  · have e : i = n := by omega
    subst e
    exact .inl ⟨hst H p, hd H p⟩
end
/-! ### comprehensions that change nothing -/
section
variable {K : PySem.W.Frag} {σ : L2.St} {H1 : Hp} {g : TG} {tt : TT} {te : TE} {vs : List Nat} {Dl : Addr} {Q : VK}
def kept (n : Nat) (keep : Nat → Bool) (f : Nat → V) : List V := ((List.range n).filter keep).map f
theorem kept_yes {n : Nat} {k : Nat → Bool} {f : Nat → V} (h : k n = true) : kept (n + 1) k f = kept n k f ++ [f n] := by
  unfold kept
  rw [List.range_succ, List.filter_append, List.map_append]
  simp [h]
theorem kept_no {n : Nat} {k : Nat → Bool} {f : Nat → V} (h : k n = false) : kept (n + 1) k f = kept n k f := by
  unfold kept
  rw [List.range_succ, List.filter_append, List.map_append]
  simp [h]
theorem kept_len (n : Nat) (k : Nat → Bool) (f : Nat → V) : (kept n k f).length ≤ n := by
  unfold kept
  rw [List.length_map]
  exact Nat.le_trans (List.length_filter_le _ _) (by rw [List.length_range]; exact Nat.le_refl _)
theorem kept_all (n : Nat) (f : Nat → V) : kept n (fun _ => true) f = (List.range n).map f := by
  unfold kept
  rw [List.filter_eq_self.mpr (by simp)]
theorem lc_pure {J : It} (n : Nat) (item : Nat → L2.St) (keep : Nat → Bool) (f : Nat → V) (hD : H1 Dl = none) (hn : n ≤ 100000)
    (hst : ∀ H', Evl.Ex H1 H' → J.stop n H') (hgo : ∀ i H', i < n → Evl.Ex H1 H' → J.go i H')
    (hy : ∀ i H' x H'' (QG : L2.St → Hp → Prop), i < n → Evl.Ex H1 H' → J.yld i H' x H'' → (Evl.Ex H' H'' → QG (item i) H'') → g x (wipe σ vs) H'' QG)
    (hw : ∀ i, i < n → wipe (item i) vs = wipe σ vs) (ht : ∀ i, i < n → Evl.EvT tt (item i) H1 (keep i)) (he : ∀ i, i < n → keep i = true → Evl.Ev te (item i) H1 (f i))
    (hd : ∀ H', Evl.Ex H1 H' → H' Dl = some (.lst (kept n keep f)) → Q (.ref Dl) H') : LcG J g tt te vs σ Dl H1 Q := by
  refine lc_g n (fun i H' => Evl.Ex H1 H' ∧ H' Dl = some (.lst (kept i keep f))) ⟨Evl.Ex.new hD, upd_same⟩ (fun H' h => hst H' h.1) (fun i H' hi h => hgo i H' hi h.1) (fun i H' x H'' hi h y => ?_) (fun H' h => hd H' h.1 h.2)
  obtain ⟨e, hl⟩ := h
  refine hy i H' x H'' _ hi e y fun e2 => ⟨hw i hi, ht i hi H'' (e.trans e2) _ fun H3 e3 => ?_⟩
  have hl3 := e3 _ _ (e2 _ _ hl)
  cases hk : keep i with
  | false =>
    show (if false = true then _ else _)
    rw [if_neg Bool.false_ne_true, kept_no hk]
    exact ⟨(e.trans e2).trans e3, hl3⟩
  | true =>
    show (if true = true then _ else _)
    rw [if_pos rfl]
    refine he i hi hk H3 ((e.trans e2).trans e3) _ fun H4 e4 => ⟨_, e4 _ _ hl3, Nat.lt_of_lt_of_le (Nat.lt_of_le_of_lt (kept_len i keep f) hi) (Nat.le_trans hn (by decide)), ?_⟩
    rw [kept_yes hk]
    exact ⟨(((e.trans e2).trans e3).trans e4).mut hD, upd_same⟩
theorem tyes {σ : L2.St} {H : Hp} : Evl.EvT tYes σ H true := fun H1 _ _ q => q H1 (Evl.Ex.refl H1)
theorem lc_enum {a : Addr} {xs : List V} {j k : Nat} (keep : Nat → Bool) (f : Nat → V) (hx : SqL K H1 a xs) (hD : H1 Dl = none) (hn : xs.length ≤ 100000)
    (hw : ∀ u v : V, wipe (((wipe σ vs).set j (some u)).set k (some v)) vs = wipe σ vs)
    (ht : ∀ i x, xs[i]? = some x → Evl.EvT tt (((wipe σ vs).set j (some (.int (i : Nat)))).set k (some x)) H1 (keep i))
    (he : ∀ i x, xs[i]? = some x → keep i = true → Evl.Ev te (((wipe σ vs).set j (some (.int (i : Nat)))).set k (some x)) H1 (f i))
    (hd : ∀ H', Evl.Ex H1 H' → H' Dl = some (.lst (kept xs.length keep f)) → Q (.ref Dl) H') : LcG (Ite K a) (gTup K 2 (gCons (gName j) (gCons (gName k) gNil))) tt te vs σ Dl H1 Q := by
  refine lc_pure xs.length (fun i => ((wipe σ vs).set j (some (.int (i : Nat)))).set k (some (xs.getD i .non))) keep f hD hn (fun H' e => ⟨xs, Evl.ex_l e hx, Nat.le_refl _⟩) (fun i H' hi e => ⟨xs, xs[i], Evl.ex_l e hx, List.getElem?_eq_getElem hi⟩)
    (fun i H' x H'' QG hi e y q => ?_) (fun i hi => hw _ _) (fun i hi => ht i _ (by rw [List.getD_eq_getElem?_getD, List.getElem?_eq_getElem hi]; rfl)) (fun i hi => he i _ (by rw [List.getD_eq_getElem?_getD, List.getElem?_eq_getElem hi]; rfl)) hd
  obtain ⟨T, v, rfl, hT, rfl, hf⟩ := y
  have hv := hf xs (Evl.ex_l e hx)
  have e1 : xs.getD i .non = v := by rw [List.getD_eq_getElem?_getD, hv]; rfl
  refine g_two upd_same ?_
  have q2 := q (Evl.Ex.new hT)
  rw [e1] at q2
  exact q2
theorem lc_list {a : Addr} {xs : List V} {j : Nat} (keep : Nat → Bool) (f : Nat → V) (hx : SqL K H1 a xs) (hD : H1 Dl = none) (hn : xs.length ≤ 100000)
    (hw : ∀ u : V, wipe ((wipe σ vs).set j (some u)) vs = wipe σ vs)
    (ht : ∀ i x, xs[i]? = some x → Evl.EvT tt ((wipe σ vs).set j (some x)) H1 (keep i))
    (he : ∀ i x, xs[i]? = some x → keep i = true → Evl.Ev te ((wipe σ vs).set j (some x)) H1 (f i))
    (hd : ∀ H', Evl.Ex H1 H' → H' Dl = some (.lst (kept xs.length keep f)) → Q (.ref Dl) H') : LcG (Itl K a) (gName j) tt te vs σ Dl H1 Q := by
  refine lc_pure xs.length (fun i => (wipe σ vs).set j (some (xs.getD i .non))) keep f hD hn (fun H' e => ⟨xs, Evl.ex_l e hx, Nat.le_refl _⟩) (fun i H' hi e => ⟨xs, xs[i], Evl.ex_l e hx, List.getElem?_eq_getElem hi⟩)
    (fun i H' x H'' QG hi e y q => ?_) (fun i hi => hw _) (fun i hi => ht i _ (by rw [List.getD_eq_getElem?_getD, List.getElem?_eq_getElem hi]; rfl)) (fun i hi => he i _ (by rw [List.getD_eq_getElem?_getD, List.getElem?_eq_getElem hi]; rfl)) hd
  obtain ⟨rfl, hf⟩ := y
  have hv := hf xs (Evl.ex_l e hx)
  have e1 : xs.getD i .non = x := by rw [List.getD_eq_getElem?_getD, hv]; rfl
  show QG _ _
  rw [← e1]
  exact q (Evl.Ex.refl _)
theorem lc_rng {lo : Int} {n j : Nat} (keep : Nat → Bool) (f : Nat → V) (hD : H1 Dl = none) (hn : n ≤ 100000)
    (hw : ∀ u : V, wipe ((wipe σ vs).set j (some u)) vs = wipe σ vs)
    (ht : ∀ i, i < n → Evl.EvT tt ((wipe σ vs).set j (some (.int (lo + i)))) H1 (keep i))
    (he : ∀ i, i < n → keep i = true → Evl.Ev te ((wipe σ vs).set j (some (.int (lo + i)))) H1 (f i))
    (hd : ∀ H', Evl.Ex H1 H' → H' Dl = some (.lst (kept n keep f)) → Q (.ref Dl) H') : LcG (Itr lo n) (gName j) tt te vs σ Dl H1 Q := by
  refine lc_pure n (fun i => (wipe σ vs).set j (some (.int (lo + i)))) keep f hD hn (fun H' e => Nat.le_refl _) (fun i H' hi e => hi)
    (fun i H' x H'' QG hi e y q => ?_) (fun i hi => hw _) ht he hd
  obtain ⟨rfl, rfl⟩ := y
  exact q (Evl.Ex.refl _)
end
/-! ### operations on values -/
section
variable {K : PySem.W.Frag} {H : Hp} {Q : VK}
theorem isi_int {i : Int} {T : String} {b : Bool} (h : kitB "int" T = some b) (q : Q (.bl b) H) : rIsi K [.int i, .ty T] H Q :=
  ⟨.int i, .ty T, .type "int", .type T, b, rfl, .ty T, .base (.int i), kit_ty h, q⟩
theorem ixL {p : Addr} {xs : List V} {i : Int} {v : V} (h : SqL K H p xs) (hi : atI xs i = some v) (q : Q v H) : rIxL K (.ref p) (.int i) H Q := ⟨p, xs, i, v, rfl, rfl, h, hi, q⟩
theorem setL {p : Addr} {xs : List V} {i : Int} {j : Nat} {v : V} {R : Hp → Prop} (h : H p = some (.lst xs)) (hj : ixN xs.length i = some j) (q : R (upd H p (.lst (xs.set j v)))) : rSetL (.ref p) (.int i) v H R := ⟨p, xs, i, j, rfl, rfl, h, hj, q⟩
theorem repL {p : Addr} {xs : List V} {k : Int} (h : H p = some (.lst xs)) (h1 : -(2 ^ 63) ≤ k) (h2 : k < 2 ^ 63) (hz : xs.length * k.toNat ≤ sizeLine) (q : ∀ l, H l = none → Q (.ref l) (upd H l (.lst (List.replicate k.toNat xs).flatten))) : rRep (.ref p) (.int k) H Q := ⟨p, k, xs, rfl, rfl, h, h1, h2, hz, q⟩
theorem catL {p b : Addr} {xs ys : List V} (h : H p = some (.lst xs)) (hb : H b = some (.lst ys)) (hz : xs.length + ys.length ≤ sizeLine) (q : ∀ l, H l = none → Q (.ref l) (upd H l (.lst (xs ++ ys)))) : rCat (.ref p) (.ref b) H Q := ⟨p, b, xs, ys, rfl, rfl, h, hb, hz, q⟩
theorem sumL {p : Addr} {ns : List Int} (h : SqL K H p (ns.map V.int)) (q : Q (.int ns.sum) H) : rSum K [.ref p] H Q := ⟨p, ns, rfl, h, q⟩
theorem appL {p : Addr} {xs : List V} {y : V} (h : H p = some (.lst xs)) (hz : xs.length < sizeLine) (q : Q .non (upd H p (.lst (xs ++ [y])))) : rAppend (.ref p) [y] H Q := ⟨p, xs, y, rfl, rfl, h, hz, q⟩
theorem tyL {p : Addr} {xs : List V} (h : H p = some (.lst xs)) : tyV K "list" (.ref p) H := Or.inl ⟨rfl, _, Or.inl (Or.inl h)⟩
theorem atI_n {xs : List V} {i : Int} {j : Nat} {v : V} (e : i = (j : Int)) (h : xs[j]? = some v) : atI xs i = some v := by
  subst e
  have hj := (List.getElem?_eq_some_iff.mp h).1
  unfold atI ixN
  rw [if_pos (by omega), if_pos (by omega)]
  exact h
theorem ixN_n {n : Nat} {i : Int} {j : Nat} (e : i = (j : Int)) (h : j < n) : ixN n i = some j := by
  subst e
  unfold ixN
  rw [if_pos (by omega), if_pos (by omega)]
  rfl
theorem sz_ok {n : Nat} (h : n ≤ 100000) : n ≤ sizeLine := Nat.le_trans h (by decide)
theorem sz_lt {n : Nat} (h : n < 100000) : n < sizeLine := Nat.lt_of_lt_of_le h (by decide)
end
end BC

set_option Elab.async false
set_option linter.all false
set_option maxRecDepth 100000
set_option maxHeartbeats 4000000
namespace BC
open PySem PySem.Spec PyProof.Rows L2 Evl RZ
/-! ### all but the object at b stands -/
def Fx (b : Addr) (H H' : Hp) : Prop := ∀ a o, a ≠ b → H a = some o → H' a = some o
theorem Fx.refl (b : Addr) (H : Hp) : Fx b H H := fun _ _ _ h => h
theorem Fx.trans {b : Addr} {H H1 H2 : Hp} (x : Fx b H H1) (y : Fx b H1 H2) : Fx b H H2 := fun a o n h => y a o n (x a o n h)
theorem Fx.of {b : Addr} {H H' : Hp} (e : Ex H H') : Fx b H H' := fun a o _ h => e a o h
theorem Fx.put {b : Addr} {H : Hp} {o : HO} : Fx b H (upd H b o) := fun a u n h => by rw [upd_ne n]; exact h
theorem Fx.ex {b : Addr} {H H' : Hp} (x : Fx b H H') (h : H b = none) : Ex H H' := fun a o e => x a o (ne_of_none e h) e
theorem Fx.l {K : PySem.W.Frag} {b a : Addr} {H H' : Hp} {xs : List V} (x : Fx b H H') (n : a ≠ b) (h : SqL K H a xs) : SqL K H' a xs := by
  rcases h with h | h
  · rcases h with h | ⟨o, h⟩
    · exact .inl (.inl (x a _ n h))
    · exact .inl (.inr ⟨o, x a _ n h⟩)
  · exact .inr h
/-! ### lists -/
theorem cutV_mem {xs : List V} {lo hi : Option Int} {x : V} (h : x ∈ cutV xs lo hi) : x ∈ xs := by
  unfold cutV at h
  exact List.mem_of_mem_drop (List.mem_of_mem_take h)
theorem cutV_len (xs : List V) (lo hi : Option Int) : (cutV xs lo hi).length ≤ xs.length := by
  unfold cutV
  rw [List.length_take, List.length_drop]
  omega
theorem two_at0 {x y r : Int} {n : Nat} (h0 : 0 ≤ r) (h1 : r < 2) (hx0 : 0 ≤ x) (hx1 : x ≤ n) (hy0 : 0 ≤ y) (hy1 : y ≤ n) : ∃ m : Nat, m ≤ n ∧ atI [V.int x, V.int y] r = some (.int m) := by
  by_cases e : r = 0
  · exact ⟨x.toNat, by omega, by rw [Int.toNat_of_nonneg hx0]; exact atI_n (j := 0) e rfl⟩
  · exact ⟨y.toNat, by omega, by rw [Int.toNat_of_nonneg hy0]; exact atI_n (j := 1) (by omega) rfl⟩
theorem two_at {x y r : Int} {n : Nat} (h0 : 0 ≤ r) (h1 : r < 2) (hx0 : 1 ≤ x) (hx1 : x ≤ n) (hy0 : 1 ≤ y) (hy1 : y ≤ n) : ∃ m : Nat, 1 ≤ m ∧ m ≤ n ∧ atI [V.int x, V.int y] r = some (.int m) := by
  by_cases e : r = 0
  · exact ⟨x.toNat, by omega, by omega, by rw [Int.toNat_of_nonneg (by omega)]; exact atI_n (j := 0) e rfl⟩
  · exact ⟨y.toNat, by omega, by omega, by rw [Int.toNat_of_nonneg (by omega)]; exact atI_n (j := 1) (by omega) rfl⟩
/-- a written list read at a drawn place -/
theorem pick {xs : List V} {r : Int} (h0 : 0 ≤ r) (h1 : r < xs.length) : ∃ v, v ∈ xs ∧ atI xs r = some v := by
  have hj : r.toNat < xs.length := by omega
  exact ⟨xs[r.toNat], List.getElem_mem hj, atI_n (j := r.toNat) (by omega) (List.getElem?_eq_getElem hj)⟩
theorem rep_one (n : Nat) (v : V) : (List.replicate n [v]).flatten = List.replicate n v := by
  induction n with
  | zero => rfl
  | succ n ih => rw [List.replicate_succ, List.flatten_cons, ih]; rfl
theorem take_succ {xs : List V} {i : Nat} {v : V} (h : xs[i]? = some v) : xs.take (i + 1) = xs.take i ++ [v] := by
  rw [List.take_add_one, h]
  rfl
theorem log2_small {i : Int} {k : Nat} (hk : 0 < k) (h : i.natAbs < 2 ^ k) : i.natAbs.log2 < k := PySem.Flt.log2_lt_of hk h
/-! ### kinds -/
section
variable {X : Cx} {K : PySem.W.Frag} {H : Hp} {Q : VK}
theorem k_pi_zipA {e e2 : Expr} {ta : TA} {p pos tpos : Pos} {elts : List Expr} {kk : Nat} (hK : X.K = K) (hg : Gl X "zip") (hm : X.mg "zip" = none) (ha : PA X [e, e2] ta)
    (hs : starEach [e, e2] X.env = (false, eval e X.env) :: starEach [e2] X.env := by rfl) (hpl : (backTo pos (starEach [e2] X.env)).any (·.1) = false := by rfl) : PI X (.Tuple elts kk tpos) (.Call (.Name "zip" p) [e, e2] [] pos) (iZipA K ta) := by subst hK; exact pi_zipA hg hm ha hs hpl
theorem k_isiT (hK : X.K = K) : CallR X (.builtin "isinstance") (rIsiT K) := by subst hK; exact call_isiT
theorem tyx_l {a : Addr} {xs : List V} (h : SqL K H a xs) : TyX K H (.ref a) (.type "list") := by
  rcases h with (h | ⟨o, h⟩) | ⟨o, its, n, h, c, _⟩
  · exact .base (.lst h)
  · exact .base (.frz h)
  · exact .kList h c
theorem tyx_t {a : Addr} {xs : List V} (h : SqT K H a xs) : TyX K H (.ref a) (.type "tuple") := by
  rcases h with (h | ⟨o, h⟩) | ⟨o, its, n, h, c, _⟩
  · exact .base (.tup h)
  · exact .fTuple h
  · exact .kTuple h c
def tyn : PyData → String
  | .none => "NoneType"
  | .bool _ => "bool"
  | .int _ => "int"
  | .str _ => "str"
  | .list _ => "list"
  | .tuple _ => "tuple"
  | .dict _ => "dict"
theorem tyx_d {v : V} {d : PyData} (h : Dp K H v d) : TyX K H v (.type (tyn d)) := by
  cases h with
  | non => exact .base .non
  | bl b => exact .base (.bl b)
  | int i => exact .base (.int i)
  | str x => exact .base (.str x)
  | lst h _ => exact tyx_l h
  | tup h _ => exact tyx_t h
theorem isi_x {v : V} {A T : String} {b : Bool} (h : TyX K H v (.type A)) (hk : kitB A T = some b) (q : Q (.bl b) H) : rIsi K [v, .ty T] H Q :=
  ⟨v, .ty T, .type A, .type T, b, rfl, .ty T, h, kit_ty hk, q⟩
theorem kit_two {A B C : String} {b c : Bool} (h1 : kitB A B = some b) (h2 : kitB A C = some c) : PySem.W.kitAny K (.type A) [.type B, .type C] = some (b || c) := by
  refine kitAny_cons (kit_ty h1) (fun e => ?_) (fun e => by rw [e]; rfl)
  subst e
  refine kitAny_cons (kit_ty h2) (fun e => ?_) (fun e => by rw [e]; rfl)
  subst e
  exact kitAny_nil
theorem isiT2 {v : V} {p : Addr} {A B C : String} {b c : Bool} (h : TyX K H v (.type A)) (hp : H p = some (.tup [.ty B, .ty C])) (h1 : kitB A B = some b) (h2 : kitB A C = some c) (q : Q (.bl (b || c)) H) : rIsiT K [v, .ref p] H Q :=
  ⟨v, p, [.ty B, .ty C], .type A, [.type B, .type C], b || c, rfl, hp, .cons (.ty B) (.cons (.ty C) .nil), h, kit_two h1 h2, q⟩
theorem ex_d {H H' : Hp} (e : Ex H H') : ∀ (d : PyData) (v : V), Dp K H v d → Dp K H' v d
  | .none, _, h => by cases h; exact .non
  | .bool _, _, h => by cases h; exact .bl _
  | .int _, _, h => by cases h; exact .int _
  | .str _, _, h => by cases h; exact .str _
  | .dict _, _, h => by cases h
  | .list ds, _, h => by
    cases h with
    | lst h1 h2 => exact .lst (ex_l e h1) (all ds _ h2)
  | .tuple ds, _, h => by
    cases h with
    | tup h1 h2 => exact .tup (ex_t e h1) (all ds _ h2)
where
  all : ∀ (ds : List PyData) (vs : List V), DpAll K H vs ds → DpAll K H' vs ds
  | [], _, h => by cases h; exact .nil
  | d :: ds, _, h => by
    cases h with
    | cons h1 h2 => exact .cons (ex_d e d _ h1) (all ds _ h2)
theorem dp_len : ∀ {vs : List V} {ds : List PyData}, DpAll K H vs ds → vs.length = ds.length
  | _, _, .nil => rfl
  | _, _, .cons _ h => by rw [List.length_cons, List.length_cons, dp_len h]
theorem dp_at : ∀ {vs : List V} {ds : List PyData} {i : Nat} {v : V}, DpAll K H vs ds → vs[i]? = some v → ∃ d, ds[i]? = some d ∧ Dp K H v d
  | _, _, _, _, .nil, e => by simp at e
  | _, _, 0, _, .cons h _, e => by simp at e; subst e; exact ⟨_, rfl, h⟩
  | _, _, i + 1, _, .cons _ h, e => by
    obtain ⟨d, e1, e2⟩ := dp_at (i := i) h (by simpa using e)
    exact ⟨d, by simpa using e1, e2⟩
theorem dp_ints : ∀ ns : List Int, DpAll K H (ns.map V.int) (ns.map PyData.int)
  | [] => .nil
  | n :: ns => .cons (.int n) (dp_ints ns)
/-- data of so many levels, of moderate size -/
inductive Sh : Nat → PyData → Prop
  | non (n : Nat) : Sh n .none
  | bl (n : Nat) (b : Bool) : Sh n (.bool b)
  | int (n : Nat) (i : Int) : Sh n (.int i)
  | str (n : Nat) (x : Str) : Sh n (.str x)
  | lst {n : Nat} {ds : List PyData} (hl : ds.length ≤ 100000) (h : ∀ d ∈ ds, Sh n d) : Sh (n + 1) (.list ds)
  | tup {n : Nat} {ds : List PyData} (hl : ds.length ≤ 100000) (h : ∀ d ∈ ds, Sh n d) : Sh (n + 1) (.tuple ds)
theorem sh_ints (ns : List Int) (h : ns.length ≤ 100000) : Sh 1 (.list (ns.map PyData.int)) := .lst (by rw [List.length_map]; exact h) fun d hd => by
  obtain ⟨n, _, rfl⟩ := List.mem_map.mp hd
  exact .int 0 n
end
/-! ### more readings -/
section
variable {K : PySem.W.Frag} {σ : L2.St} {H H1 : Hp} {g : TG} {tt : TT} {te : TE} {vs : List Nat} {Dl : Addr} {Q : VK}
theorem x_eqB {m n : Bool} : rEq (.bl m) (.bl n) H Q ↔ Q (.bl (decide (m = n))) H := by
  unfold rEq
  rw [show scal (V.bl m) (V.bl n) = true from rfl]
  cases m <;> cases n <;> simp
theorem x_neB {m n : Bool} : rNe (.bl m) (.bl n) H Q ↔ Q (.bl (!decide (m = n))) H := by
  unfold rNe
  rw [show scal (V.bl m) (V.bl n) = true from rfl]
  cases m <;> cases n <;> simp
theorem x_eqS {m n : Str} : rEq (.str m) (.str n) H Q ↔ Q (.bl (decide (m = n))) H := by
  unfold rEq
  rw [show scal (V.str m) (V.str n) = true from rfl]
  by_cases e : m = n
  · subst e; simp
  · simp [e]
theorem x_neS {m n : Str} : rNe (.str m) (.str n) H Q ↔ Q (.bl (!decide (m = n))) H := by
  unfold rNe
  rw [show scal (V.str m) (V.str n) = true from rfl]
  by_cases e : m = n
  · subst e; simp
  · simp [e]
theorem allL {p : Addr} {bs : List Bool} (h : SqL K H p (bs.map V.bl)) (q : Q (.bl (bs.all id)) H) : rAll K [.ref p] H Q := ⟨p, bs, rfl, h, q⟩
theorem anyL {p : Addr} {bs : List Bool} (h : SqL K H p (bs.map V.bl)) (q : Q (.bl (bs.any id)) H) : rAny K [.ref p] H Q := ⟨p, bs, rfl, h, q⟩
theorem lenL {p : Addr} {xs : List V} (h : SqL K H p xs) (q : Q (.int (xs.length : Nat)) H) : rLen K [.ref p] H Q := ⟨p, xs, rfl, .inl h, q⟩
theorem lenT {p : Addr} {xs : List V} (h : SqT K H p xs) (q : Q (.int (xs.length : Nat)) H) : rLen K [.ref p] H Q := ⟨p, xs, rfl, .inr h, q⟩
theorem x_izipA {a : TA} {R : It → Hp → Prop} : iZipA K a σ H R = a σ H (fun vs H1 => ∃ a b xs ys, vs = [.ref a, .ref b] ∧ ((SqL K H1 a xs ∧ SqL K H1 b ys ∧ R (Itz K a b) H1) ∨ (SqT K H1 a xs ∧ SqT K H1 b ys ∧ R (ItzT K a b) H1))) := rfl
theorem eq_same {v : V} (h : scal v v = true) (q : Q (.bl true) H) : rEq v v H Q := ⟨h, by rw [decide_eq_true rfl]; exact q⟩
theorem g_three {i j l : Nat} {T : Addr} {x y z : V} {QG : L2.St → Hp → Prop} (h : H T = some (.tup [x, y, z])) (q : QG (((σ.set i (some x)).set j (some y)).set l (some z)) H) : gTup K 3 (gCons (gName i) (gCons (gName j) (gCons (gName l) gNil))) (.ref T) σ H QG :=
  ⟨T, [x, y, z], rfl, .inl (.inl h), rfl, x, [y, z], rfl, y, [z], rfl, z, [], rfl, rfl, q⟩
theorem lc_zip {a b : Addr} {xs ys : List V} {j k : Nat} (keep : Nat → Bool) (f : Nat → V) (hx : SqL K H1 a xs) (hy : SqL K H1 b ys) (he0 : xs.length = ys.length) (hD : H1 Dl = none) (hn : xs.length ≤ 100000)
    (hw : ∀ u v : V, wipe (((wipe σ vs).set j (some u)).set k (some v)) vs = wipe σ vs)
    (ht : ∀ i x y, xs[i]? = some x → ys[i]? = some y → Evl.EvT tt (((wipe σ vs).set j (some x)).set k (some y)) H1 (keep i))
    (he : ∀ i x y, xs[i]? = some x → ys[i]? = some y → keep i = true → Evl.Ev te (((wipe σ vs).set j (some x)).set k (some y)) H1 (f i))
    (hd : ∀ H', Evl.Ex H1 H' → H' Dl = some (.lst (kept xs.length keep f)) → Q (.ref Dl) H') : LcG (Itz K a b) (gTup K 2 (gCons (gName j) (gCons (gName k) gNil))) tt te vs σ Dl H1 Q := by
  have gx : ∀ i, i < xs.length → xs[i]? = some (xs.getD i .non) := fun i hi => by rw [List.getD_eq_getElem?_getD, List.getElem?_eq_getElem hi]; rfl
  have gy : ∀ i, i < xs.length → ys[i]? = some (ys.getD i .non) := fun i hi => by rw [List.getD_eq_getElem?_getD, List.getElem?_eq_getElem (by omega)]; rfl
  refine lc_pure xs.length (fun i => ((wipe σ vs).set j (some (xs.getD i .non))).set k (some (ys.getD i .non))) keep f hD hn (fun H' e => ⟨xs, ys, Evl.ex_l e hx, Evl.ex_l e hy, .inl (Nat.le_refl _)⟩)
    (fun i H' hi e => ⟨xs, ys, _, _, Evl.ex_l e hx, Evl.ex_l e hy, gx i hi, gy i hi⟩)
    (fun i H' x H'' QG hi e y q => ?_) (fun i hi => hw _ _) (fun i hi => ht i _ _ (gx i hi) (gy i hi)) (fun i hi => he i _ _ (gx i hi) (gy i hi)) hd
  obtain ⟨T, u, v, rfl, hT, rfl, hf, hf2⟩ := y
  have hu := hf xs (Evl.ex_l e hx)
  have hv := hf2 ys (Evl.ex_l e hy)
  have e1 : xs.getD i .non = u := by rw [List.getD_eq_getElem?_getD, hu]; rfl
  have e2 : ys.getD i .non = v := by rw [List.getD_eq_getElem?_getD, hv]; rfl
  refine g_two upd_same ?_
  have q2 := q (Evl.Ex.new hT)
  rw [e1, e2] at q2
  exact q2
theorem lc_zipT {a b : Addr} {xs ys : List V} {j k : Nat} (keep : Nat → Bool) (f : Nat → V) (hx : SqT K H1 a xs) (hy : SqT K H1 b ys) (he0 : xs.length = ys.length) (hD : H1 Dl = none) (hn : xs.length ≤ 100000)
    (hw : ∀ u v : V, wipe (((wipe σ vs).set j (some u)).set k (some v)) vs = wipe σ vs)
    (ht : ∀ i x y, xs[i]? = some x → ys[i]? = some y → Evl.EvT tt (((wipe σ vs).set j (some x)).set k (some y)) H1 (keep i))
    (he : ∀ i x y, xs[i]? = some x → ys[i]? = some y → keep i = true → Evl.Ev te (((wipe σ vs).set j (some x)).set k (some y)) H1 (f i))
    (hd : ∀ H', Evl.Ex H1 H' → H' Dl = some (.lst (kept xs.length keep f)) → Q (.ref Dl) H') : LcG (ItzT K a b) (gTup K 2 (gCons (gName j) (gCons (gName k) gNil))) tt te vs σ Dl H1 Q := by
  have gx : ∀ i, i < xs.length → xs[i]? = some (xs.getD i .non) := fun i hi => by rw [List.getD_eq_getElem?_getD, List.getElem?_eq_getElem hi]; rfl
  have gy : ∀ i, i < xs.length → ys[i]? = some (ys.getD i .non) := fun i hi => by rw [List.getD_eq_getElem?_getD, List.getElem?_eq_getElem (by omega)]; rfl
  refine lc_pure xs.length (fun i => ((wipe σ vs).set j (some (xs.getD i .non))).set k (some (ys.getD i .non))) keep f hD hn (fun H' e => ⟨xs, ys, Evl.ex_t e hx, Evl.ex_t e hy, .inl (Nat.le_refl _)⟩)
    (fun i H' hi e => ⟨xs, ys, _, _, Evl.ex_t e hx, Evl.ex_t e hy, gx i hi, gy i hi⟩)
    (fun i H' x H'' QG hi e y q => ?_) (fun i hi => hw _ _) (fun i hi => ht i _ _ (gx i hi) (gy i hi)) (fun i hi => he i _ _ (gx i hi) (gy i hi)) hd
  obtain ⟨T, u, v, rfl, hT, rfl, hf, hf2⟩ := y
  have hu := hf xs (Evl.ex_t e hx)
  have hv := hf2 ys (Evl.ex_t e hy)
  have e1 : xs.getD i .non = u := by rw [List.getD_eq_getElem?_getD, hu]; rfl
  have e2 : ys.getD i .non = v := by rw [List.getD_eq_getElem?_getD, hv]; rfl
  refine g_two upd_same ?_
  have q2 := q (Evl.Ex.new hT)
  rw [e1, e2] at q2
  exact q2
theorem all_true (n : Nat) : ((List.replicate n true).all id) = true := by
  induction n with
  | zero => rfl
  | succ n ih => rw [List.replicate_succ, List.all_cons, ih]; rfl
theorem kept_const (n : Nat) (v : V) : kept n (fun _ => true) (fun _ => v) = List.replicate n v := by
  rw [kept_all]
  apply List.ext_getElem?
  intro j
  rw [List.getElem?_map]
  by_cases h : j < n
  · rw [List.getElem?_range h, List.getElem?_replicate, if_pos h]
    rfl
  · rw [List.getElem?_eq_none (by rw [List.length_range]; omega), List.getElem?_eq_none (by rw [List.length_replicate]; omega)]
    rfl
end
end BC

set_option Elab.async false
set_option linter.all false
set_option maxRecDepth 100000
set_option maxHeartbeats 4000000
/-! repr of lists wants to know that no repr is under way around: promises that hold where nothing is guarded -/
namespace BC
open PySem PySem.Spec PyProof.Rows L2 Evl
/-- nothing is guarded around -/
def G0 (A : Around) : Prop := A.guards = some []
theorem G0.deeper {A : Around} (g : G0 A) (env : Env) : G0 (A.deeper env) := g
/-- FnOk where nothing is guarded around -/
structure FnG (P : Program) (w : World) (K : PySem.W.Frag) (mg : Str → Option Value) (base : Heap) (CX : CXT) (k : Nat) (f : Addr) (fd : FuncData) (ps : List Str) (sp : Sp) : Prop where
  size : ∀ vs H Q E, sp vs H Q E → vs.length = ps.length
  go : ∀ (A : Around) (outer : List Env) (s : Shared) (H : Hp) (args : Args) (us : List Value) (vs : List V) (Q : VK) (E : XK), G0 A → Room k A → Env0 P w K mg base A outer s H →
    BindsTo s fd args (ps.zip us) → Vals vs us → sp vs H Q E → codeAny (model P w) A (.call (.ref f) args) (CR CX outer P w H s Q E) s
section
variable {P : Program} {w : World} {K : PySem.W.Frag} {mg : Str → Option Value} {base : Heap} {CX : CXT} {k : Nat} {f : Addr} {fd : FuncData} {ps : List Str} {sp : Sp}
theorem FnG.of (F : FnOk P w K mg base CX k f fd ps sp) : FnG P w K mg base CX k f fd ps sp :=
  ⟨F.len, fun A outer s H args us vs Q E _ => F.run A outer s H args us vs Q E⟩
theorem FnG.up (F : FnG P w K mg base CX k f fd ps sp) {j : Nat} (h : k ≤ j) : FnG P w K mg base CX j f fd ps sp :=
  ⟨F.size, fun A outer s H args us vs Q E g hr => F.go A outer s H args us vs Q E g (hr.mono h)⟩
/-- the rule for a def -/
theorem fun_okG {x qual : Str} {st : Stmt} {N : List Str} (F : Fun K x qual st f fd) (S : FnScope N ps (defScope st)) (size : ∀ vs H Q E, sp vs H Q E → vs.length = ps.length)
    (body : ∀ (cdv : Value) (A : Around) (outer : List Env) (s : Shared) (H : Hp) (vs : List V) (Q : VK) (E : XK), G0 (A.deeper (envOfC qual (defScope st) s.heap.objs.size f cdv)) → Room k (A.deeper (envOfC qual (defScope st) s.heap.objs.size f cdv)) → sp vs H Q E →
      ∃ t, PSs (cxOf CX P w K mg base N qual (defScope st) f cdv A outer s H E) (defBody st) t ∧ t { nx := fun _ H' => Q .non H', rt := Q } (start N vs) H) : FnG P w K mg base CX (k + 1) f fd ps sp := by
  obtain ⟨oc, od, kV, doc, pm, an, cdv, ct, osl, rfl, lk, hcd⟩ := F.ex
  refine ⟨size, fun A outer s H args us vs Q E g room env bind vals prom => ?_⟩
  have inK : K.In s.heap := env.mod.kin.keeps fun b o q => (env.bs b o q).1
  have loose : s.heap.NoLimit := env.mod.nolimit.keeps fun b o q => (env.bs b o q).1
  have kinds : ∀ z ∈ ps.zip us, (defScope st).names.lookup z.1 = some .local ∨ ((defScope st).names.lookup z.1 = some .cell ∧ ((cellsFrom (s.heap.objs.size + 1) (defScope st).names []).lookup z.1).isSome = true) := by
    rintro ⟨n, v⟩ hz
    have hn := (List.of_mem_zip hz).1
    rcases S.par n hn with h | h
    · exact Or.inl h
    · exact Or.inr ⟨h, PySem.W.cellsFrom_some _ _ _ (Or.inl h)⟩
  refine codeAny_call_function room.depth (inK _ _ lk) rfl S.co S.gen rfl (PySem.W.codeRec_of inK hcd) (bind _ _ _ _ ?_)
  refine wpAny_newFunctionEnv_cells S.kind kinds fun env' e1 s1 into => ?_
  subst e1
  refine ⟨loose.keeps into.toInCall.keep, codeAny_func ?_⟩
  obtain ⟨t, deriv, read⟩ := body cdv A outer s H vs Q E (g.deeper _) (room.deeper _) prom
  have I := inv_start (CX := CX) (E := E) S room.hd env (size _ _ _ _ prom) vals into
  refine wpAny_mono (deriv.run [] s1 (start N vs) H _ I read) (fun flow s' ends => ?_) fun _ _ q => q
  have done : ∀ {σ2 : L2.St} {H2 : Hp} {v : V} {u : Value}, Inv (cxOf CX P w K mg base N qual (defScope st) f cdv A outer s H E) [] σ2 H2 s' → RelV v u → Q v H2 → CE outer P w H s Q u s' := by
    intro σ2 H2 v u J rel q
    exact ⟨v, H2, J.os, J.bare, J.base, J.hok, rel, q⟩
  match flow, ends with
  | .ret u, ends =>
    obtain ⟨v, σ2, H2, J, rel, q⟩ := ends
    exact done J rel q
  | .next, ends =>
    obtain ⟨σ2, H2, J, q⟩ := ends
    exact done (v := V.non) (u := Value.none) J rfl q
  | .brk, ends =>
    obtain ⟨_, _, _, q⟩ := ends
    exact q.elim
  | .cont, ends =>
    obtain ⟨_, _, _, q⟩ := ends
    exact q.elim
end
section
variable {X : Cx} {CX : CXT} {k : Nat} {f : Addr} {fd : FuncData} {ps : List Str} {sp : Sp} {dvs : List V} {ds : List Value} {E : XK} {x : Str} {p pos : Pos} {e : Expr} {es : List Expr} {t : TA}
theorem call_G {pins : List (Addr × Obj)} {σ : L2.St} {H : Hp} {s : Shared} {Q : VK} {us : List Value} {vs : List V} (F : FnG X.prog X.w X.K X.mg X.base CX k f fd ps sp) (g : G0 X.A) (hr : Room k X.A) (hb : Binds X.K fd ps ds) (hd : Vals dvs ds)
    (hx : Passes CX X E) (I : Inv X pins σ H s) (r : Vals vs us) (h : sp (vs ++ dvs) H Q E) : wpAny (model X.prog X.w) X.A (call (.ref f) us) (EP X pins σ Q) X.xe s := by
  have both : Vals (vs ++ dvs) (us ++ ds) := r.append hd
  have many : (us ++ ds).length = ps.length := both.length.symm.trans (F.size _ _ _ _ h)
  have run := F.go X.A X.stack s H ⟨us, []⟩ (us ++ ds) (vs ++ dvs) Q E g hr I.env0 (hb s us I.kIn many) both h
  refine wpAny_call (codeAny_mono run fun res s' q => ?_)
  match res, q with
  | .error err, q => exact hx pins σ H s err s' I q
  | .ok (.ret u), q => exact I.after q
theorem pe_callG (F : FnG X.prog X.w X.K X.mg X.base CX k f fd ps sp) (g : G0 X.A) (hr : Room k X.A) (hg : Gl X x) (hm : X.mg x = some (.ref f)) (hk : PySem.W.keepIn X.K (.ref f) = true) (hb : Binds X.K fd ps ds) (hd : Vals dvs ds) (hx : Passes CX X E)
    (ha : PA X (e :: es) t) (hdb : (x == ("__debug__" : Str)) = false := by decide) (he : starEach (e :: es) X.env = (false, eval e X.env) :: starEach es X.env := by rfl) (hpl : (backTo pos (starEach es X.env)).any (·.1) = false := by rfl) :
    PE X (.Call (.Name x p) (e :: es) [] pos) (tCall sp dvs E t) := by
  constructor
  intro pins s σ H Q I h
  have args := ha.run pos pins s σ H _ I h
  refine wpAny_Call_Name_kw (ld_glob I hg hm (PySem.W.callWith_K (h₀ := X.base) I.ok.mod.kin hk (thn args ?_) he hpl) hdb)
  rintro us s1 ⟨vs, H1, I1, r, q⟩
  exact ⟨I1.kIn, call_G F g hr hb hd hx I1 r q⟩
end

/-! ### the law's own call, for a promise of this kind -/
section
variable {P : Program} {w : World} {K : PySem.W.Frag} {mg mb : Str → Option Value} {k : Nat} {fa a : Addr} {fd : FuncData} {x : Str} {sp : Sp} {s : Shared} {vs : List Value} {ns : List Int}
/-- the abstract heap at the entry: the script alone, locked; or nothing, where the script is the module's own -/
def entryH (a : Addr) (vs : List Value) (ns : List Int) (own : Bool) : Hp := fun b => if own = false ∧ b = a then some (.frz { cls := .type "list", data := .seq vs.toArray } (.lst (ns.map V.int))) else none
theorem entry_other {own : Bool} {b : Addr} (h : b ≠ a) : entryH a vs ns own b = none := if_neg fun z => h z.2
theorem entry_own {b : Addr} : entryH a vs ns true b = none := if_neg fun z => nomatch z.1
theorem entry_at : entryH a vs ns false a = some (.frz { cls := .type "list", data := .seq vs.toArray } (.lst (ns.map V.int))) := if_pos ⟨rfl, rfl⟩
theorem entry_case {own : Bool} {b : Addr} {o : HO} (h : entryH a vs ns own b = some o) : own = false ∧ b = a ∧ o = .frz { cls := .type "list", data := .seq vs.toArray } (.lst (ns.map V.int)) := by
  unfold entryH at h
  by_cases q : own = false ∧ b = a
  · rw [if_pos q] at h
    exact ⟨q.1, q.2, (Option.some.inj h).symm⟩
  · rw [if_neg q] at h
    cases h
theorem law_goG (hK : K.In s.heap) (hns : s.heap.Ns mainGlobals mg) (hb : s.heap.Ns builtinsNs mb) (hbb : ∀ x : Str, x ≠ "__name__" → mb x = bootBuiltins x) (hlim : s.heap.NoLimit) (hg : s.gens = #[])
    (ha : s.heap.get? a = some { cls := .type "list", data := .seq vs.toArray }) (hi : IntsAre vs ns) (hl : ns.length ≤ sizeLine) (hr : Room k callerA)
    (F : ∀ base : Heap, K.In base → base.Ns mainGlobals mg → FnG P w K mg base CX0 k fa fd [x] sp) (bind : ∀ (s : Shared) (u : Value), BindsTo s fd ⟨[u], []⟩ [(x, u)])
    (prom : ∀ H : Hp, SqL K H a (ns.map V.int) → sp [.ref a] H (fun v _ => v = .bl true) fun _ _ _ => False) :
    codeAny (model P w) callerA (.call (.ref fa) ⟨[.ref a], []⟩) (fun r s' => r = .ok (.ret (.bool true)) ∧ OldK s.heap s'.heap ∧ s'.os = s.os ∧ AllBare s'.gens) s := by
  have rv := vals_ints hi
  have many := hi.length
  obtain ⟨own, hown⟩ : ∃ own : Bool, own = (K.lookup a).isSome := ⟨_, rfl⟩
  let H : Hp := entryH a vs ns own
  have reads : SqL K H a (ns.map V.int) := by
    cases q : K.lookup a with
    | none =>
      have e : own = false := by rw [hown, q]; rfl
      exact Or.inl (Or.inr ⟨_, by show entryH a vs ns own a = _; rw [e]; exact entry_at⟩)
    | some o =>
      have z := hK a o q
      rw [ha] at z
      cases z
      refine Or.inr ⟨_, vs.toArray, _, q, rfl, rfl, rfl, ?_, ?_⟩
      · rw [List.size_toArray, many]
        exact hl
      · exact rv
  have held : HOk P w H s.heap := fun b o q => by
    obtain ⟨_, rfl, rfl⟩ := entry_case q
    exact ⟨ha, by rw [List.length_map]; exact hl, vs, _, rv, ha⟩
  have spare : ∀ {b : Addr} {o : Obj}, s.heap.get? b = some o → (∀ u n, o.data ≠ .seq u n) → H b = none := fun {b o} e d => by
    cases q : H b with
    | none => rfl
    | some u =>
      obtain ⟨_, rfl, _⟩ := entry_case q
      rw [ha] at e
      cases e
      exact absurd rfl (d _ _)
  have nsT : ∀ {b : Addr} {m : Str → Option Value}, s.heap.Ns b m → (hidT s.heap H).Ns b m := by
    rintro b m ⟨o, es, ep, e, d, r⟩
    exact ⟨o, es, ep, hidT_get e (spare e fun u n z => by rw [d] at z; cases z), d, r⟩
  have kT : K.In (hidT s.heap H) := fun b o e => hidT_get (hK b o e) (by
    cases q : H b with
    | none => rfl
    | some u =>
      obtain ⟨z, rfl, _⟩ := entry_case q
      rw [hown, e] at z
      cases z)
  have module : Mod K mg (hidT s.heap H) := ⟨kT, nsT hns, ⟨mb, nsT hb, hbb⟩, by obtain ⟨mc, h1, h2⟩ := hlim; exact ⟨mc, nsT h1, h2⟩⟩
  have entry : Env0 P w K mg (hidT s.heap H) callerA [] s H :=
    ⟨rfl, module, fun b o e => of_hidT e, Nat.le_of_eq (hidT_size _ _), trivial, fun b z => (List.not_mem_nil z).elim, held, .of_eq hg⟩
  have ran := (F _ kT (nsT hns)).go callerA [] s H ⟨[.ref a], []⟩ [.ref a] [.ref a] _ _ rfl hr entry (bind s (.ref a)) (.cons rfl .nil) (prom H reads)
  refine codeAny_mono ran fun r s' q => ?_
  match r, q with
  | .ok (.ret u), q =>
    obtain ⟨v, H', os, bare, un, held', rel, fin⟩ := q
    obtain rfl : v = .bl true := fin
    obtain rfl : u = Value.bool true := rel
    refine ⟨rfl, OldK.of_keep fun b o e => ?_, os, bare⟩
    cases q : H b with
    | none => exact un.keep b o e q (fun z => (List.not_mem_nil z).elim) List.not_mem_nil
    | some u =>
      obtain ⟨_, rfl, rfl⟩ := entry_case q
      have z := (held' _ _ (un.frzs _ _ _ q)).1
      rw [ha] at e
      cases e
      exact z
theorem walk_G {l : PySem.W.OpenLaw} {n k : Nat} {q : Program} {loose : List Str} {XP : (Str → Option Value) → Heap → Prop} {YP : World → Heap → Prop} {d : DefRec} {K : Params → PySem.W.Frag} {sp : World → Sp} {x : Str}
    (hn : l.most = some n) (hn2 : n ≤ sizeLine) (hdf : d.params.defaults = []) (hr : Room k callerA) (hY : ∀ (w : World) (h : Heap), YP w h → (K w.params).In h)
    (F : ∀ (w : World) (mg : Str → Option Value) (fa : Addr) (h : Heap), (K w.params).In h → h.Ns mainGlobals mg → mg d.name = some (.ref fa) →
      ∃ fd : FuncData, (∀ (s : Shared) (u : Value), BindsTo s fd ⟨[u], []⟩ [(x, u)]) ∧ ∀ base : Heap, (K w.params).In base → base.Ns mainGlobals mg → FnG l.prog w (K w.params) mg base CX0 k fa fd [x] (sp w))
    (prom : ∀ (w : World) (H : Hp) (a : Addr) (ns : List Int), ns.length ≤ n → SqL (K w.params) H a (ns.map V.int) → sp w [.ref a] H (fun v _ => v = .bl true) fun _ _ _ => False) :
    PySem.W.WalkO q loose XP YP l.row.toRowW d [] (fun f vs => PySem.call f vs) := by
  refine Att.attach_call hn hdf ?_
  intro w s0 s1 mg mb fa o pm cd doc a vs ns G Y _ hd hcd hmg hobj hints hlen hg
  have inK := hY w _ Y
  obtain ⟨fd, bind, keep⟩ := F w mg fa _ inK G.T.g hmg
  exact law_goG inK G.T.g G.T.b G.T.builtins G.T.nolimit hg hobj hints (Nat.le_trans hlen hn2) hr keep bind fun H hS => prom w H a ns hlen hS
end
end BC

set_option Elab.async false
set_option linter.all false
set_option maxRecDepth 100000
set_option maxHeartbeats 4000000
/-! repr, keywords, more readings -/
namespace BC
open PySem PySem.Spec PyProof.Rows L2 Evl
section
variable {X : Cx} {K : PySem.W.Frag} {σ : L2.St} {H : Hp} {Q : VK}
/-- repr of lists, tuples and what lies in them -/
def rRepr (K : PySem.W.Frag) : List V → Hp → VK → Prop := fun xs H Q => ∃ a d, xs = [.ref a] ∧ Dp K H (.ref a) d ∧ d.showable = true ∧ d.depth ≤ 60 ∧ d.hasDict = false ∧ d.shown.length ≤ sizeLine ∧ Q (.str d.shown) H
theorem k_repr (hK : X.K = K) (g : G0 X.A) (hu : X.A.units + 64 < cLine) : CallR X (.builtin "repr") (rRepr K) := by
  subst hK
  intro pins s σ H xs us Q I r h
  obtain ⟨a, d, rfl, hd, h1, h2, h3, h4, q⟩ := h
  obtain ⟨u, rfl, rfl⟩ := vals1 r
  obtain ⟨as, rd⟩ := Dp.reads I d (.ref a) (.ref a) hd rfl
  exact repr_of_reads' rd h1 (PyData.noDict_hsm h3) g (by omega) (fun _ _ e => e) (fun h' u tk hk => ⟨.str _, H, I.kept hk, ⟨_, rfl⟩, q⟩) h4
def rIsB : R2 := fun x y H Q => ∃ a b, x = .bl a ∧ y = .bl b ∧ Q (.bl (decide (a = b))) H
def rIsNB : R2 := fun x y H Q => ∃ a b, x = .bl a ∧ y = .bl b ∧ Q (.bl (!decide (a = b))) H
theorem op_isB : OpR X (compareOp .Is) rIsB := op_is_bl
theorem op_isNB : OpR X (compareOp .IsNot) rIsNB := op_isnot_bl
theorem x_isB {a b : Bool} : rIsB (.bl a) (.bl b) H Q ↔ Q (.bl (decide (a = b))) H := ⟨fun ⟨i, j, e1, e2, q⟩ => by cases e1; cases e2; exact q, fun q => ⟨a, b, rfl, rfl, q⟩⟩
theorem x_isNB {a b : Bool} : rIsNB (.bl a) (.bl b) H Q ↔ Q (.bl (!decide (a = b))) H := ⟨fun ⟨i, j, e1, e2, q⟩ => by cases e1; cases e2; exact q, fun q => ⟨a, b, rfl, rfl, q⟩⟩
theorem x_lrg {te : L2.St → Hp → (Int → Int → Hp → Prop) → Prop} : tLstRg te σ H Q = te σ H fun a b H1 => RgOk a b ∧ ∀ q, H1 q = none → Q (.ref q) (upd H1 q (.lst (rgV a b))) := rfl
theorem x_rg1 {ta : TE} {R : Int → Int → Hp → Prop} : tRg1 ta σ H R = ta σ H fun x H1 => ∃ n, x = .int n ∧ R 0 n H1 := rfl
theorem x_rg2 {ta tb : TE} {R : Int → Int → Hp → Prop} : tRg2 ta tb σ H R = ta σ H fun x H1 => tb σ H1 fun y H2 => ∃ i j, x = .int i ∧ y = .int j ∧ R i j H2 := rfl
end
theorem Fx.mut {b r : Addr} {H H' : Hp} {o : HO} (f : Fx b H H') (n : H r = none) : Fx b H (upd H' r o) := fun a u na h => by rw [upd_ne (ne_of_none h n)]; exact f a u na h
theorem fx_none {b x : Addr} {H H' : Hp} (h : Fx b H H') (n : H' x = none) (nb : x ≠ b) : H x = none := by
  cases e : H x with
  | none => rfl
  | some o => rw [h _ _ nb e] at n; cases n
/-- a promise that asks for more -/
theorem weak {P : Program} {w : World} {K : PySem.W.Frag} {mg : Str → Option Value} {base : Heap} {CX : CXT} {k : Nat} {f : Addr} {fd : FuncData} {ps : List Str} {sp sp' : Sp} (F : FnOk P w K mg base CX k f fd ps sp) (h : ∀ vs H Q E, sp' vs H Q E → sp vs H Q E) : FnOk P w K mg base CX k f fd ps sp' :=
  ⟨fun vs H Q E q => F.len vs H Q E (h _ _ _ _ q), fun A outer s H args us vs Q E hr env bind vals q => F.run A outer s H args us vs Q E hr env bind vals (h _ _ _ _ q)⟩
/-! ### a cut: what stands after one statement -/
section
variable {σ : L2.St} {H : Hp} {D : Ends} {ta : TE} {s1 s2 : TS} {i : Nat}
theorem seq_asg (C : V → Hp → Prop) (h1 : ∀ R : VK, (∀ v H', C v H' → R v H') → ta σ H R) (h2 : ∀ v H', C v H' → s2 D (σ.set i (some v)) H') : tSeq (tAsg ta (gName i)) s2 D σ H := h1 _ h2
theorem seq_cut (C : L2.St → Hp → Prop) (h1 : ∀ N : L2.St → Hp → Prop, (∀ σ' H', C σ' H' → N σ' H') → s1 { D with nx := N } σ H) (h2 : ∀ σ' H', C σ' H' → s2 D σ' H') : tSeq s1 s2 D σ H := h1 _ h2
end
/-! ### keywords -/
def kg {α : Type} (d : α) (a b : Nat) (perm : List Nat) (us ws : List α) : List α := if us.length = a ∧ ws.length = b then perm.map fun i => (us ++ ws).getD i d else []
theorem vals_getD : ∀ {vs : List V} {us : List Value}, Vals vs us → ∀ i, RelV (vs.getD i .non) (us.getD i .none)
  | [], [], .nil, _ => rfl
  | _ :: _, _ :: _, .cons h _, 0 => h
  | _ :: _, _ :: _, .cons _ r, i + 1 => vals_getD r i
theorem vals_perm {vs : List V} {us : List Value} (r : Vals vs us) : ∀ p : List Nat, Vals (p.map fun i => vs.getD i .non) (p.map fun i => us.getD i .none)
  | [] => .nil
  | i :: p => .cons (vals_getD r i) (vals_perm r p)
theorem kg_rel {a b : Nat} {p : List Nat} {vs : List V} {us : List Value} {zs : List V} {ws : List Value} (r : Vals vs us) (z : Vals zs ws) : Vals (kg .non a b p vs zs) (kg .none a b p us ws) := by
  unfold kg
  rw [r.length, z.length]
  split
  · exact vals_perm (r.append z) p
  · exact .nil
theorem kg_mk {K : PySem.W.Frag} {fd : FuncData} {q : Str} {ps ks : List Str} {a b : Nat} {p : List Nat} (h : ∀ us ws : List Value, us.length = a → ws.length = b → bindArgs fd ⟨us, ks.zip ws⟩ = pure ((q :: ps).zip (p.map fun i => (us ++ ws).getD i .none))) :
    KBinds K fd (q :: ps) ks (kg .none a b p) (kg .non a b p) := by
  refine ⟨fun s us ws _ hl => ?_, kg_rel⟩
  unfold kg at hl ⊢
  split at hl
  · next c =>
    rw [if_pos c]
    exact .of_eq (h us ws c.1 c.2)
  · cases hl
theorem fun_okN {P : Program} {w : World} {K : PySem.W.Frag} {mg : Str → Option Value} {base : Heap} {CX : CXT} {k : Nat} {f : Addr} {fd : FuncData} {ps : List Str} {sp : Sp} {x qual : Str} {st : Stmt} {N : List Str} (F : Fun K x qual st f fd) (S : FnScope N ps (defScope st)) (size : ∀ vs H Q E, sp vs H Q E → vs.length = ps.length)
    (body : ∀ (cdv : Value) (A : Around) (outer : List Env) (s : Shared) (H : Hp) (vs : List V) (Q : VK) (E : XK), G0 (A.deeper (envOfC qual (defScope st) s.heap.objs.size f cdv)) → Room k (A.deeper (envOfC qual (defScope st) s.heap.objs.size f cdv)) → sp vs H Q E →
      ∃ t, PSs (cxOf CX P w K mg base N qual (defScope st) f cdv A outer s H E).nox (defBody st) t ∧ t { nx := fun _ H' => Q .non H', rt := Q } (start N vs) H) : FnG P w K mg base CX (k + 1) f fd ps sp :=
  fun_okG F S size fun cdv A outer s H vs Q E hG hr h => let ⟨t, d, q⟩ := body cdv A outer s H vs Q E hG hr h; ⟨t, d.nox, q⟩
theorem Fun.kb {K : PySem.W.Frag} {x qual q : Str} {st : Stmt} {f : Addr} {fd : FuncData} {ps ks : List Str} {a b : Nat} {p : List Nat} (F : Fun K x qual st f fd)
    (h : ∀ (kV doc pm : Value) (an : Option Addr) (cdv ct : Value) (us ws : List Value), us.length = a → ws.length = b → bindArgs (PySem.W.fnOf x qual (defArgs st) (defBody st) (defScope st) .none kV doc pm an cdv ct) ⟨us, ks.zip ws⟩ = pure ((q :: ps).zip (p.map fun i => (us ++ ws).getD i .none))) :
    KBinds K fd (q :: ps) ks (kg .none a b p) (kg .non a b p) := by
  obtain ⟨oc, od, kV, doc, pm, an, cdv, ct, osl, rfl, lk, hcd⟩ := F.ex
  exact kg_mk (h kV doc pm an cdv ct)
section
variable {X : Cx} {CX : CXT} {k : Nat} {f : Addr} {fd : FuncData} {ps ks : List Str} {sp : Sp} {E : XK} {x : Str} {p pos : Pos} {e : Expr} {es : List Expr} {kws : List Keyword} {t tk : TA} {g : List Value → List Value → List Value} {gV : List V → List V → List V}
theorem pe_callK0 (F : FnOk X.prog X.w X.K X.mg X.base CX k f fd ps sp) (hr : Room k X.A) (hg : Gl X x) (hm : X.mg x = some (.ref f)) (hk : PySem.W.keepIn X.K (.ref f) = true) (hb : KBinds X.K fd ps ks g gV) (hx : Passes CX X E)
    (hkw : PK X kws tk) (hall : (backToKw pos (keywordEach kws X.env)).all (·.1.isSome) = true := by rfl) (hks : (backToKw pos (keywordEach kws X.env)).filterMap (·.1) = ks := by rfl)
    (hdb : (x == ("__debug__" : Str)) = false := by decide)
    (hpl : ((backTo pos (starEach [] X.env)).any (·.1) || (backToKw pos (keywordEach kws X.env)).any (·.1.isNone)) = false := by rfl) :
    PE X (.Call (.Name x p) [] kws pos) (tCallK sp gV E tNil tk) := by
  refine ⟨fun pins s σ H Q I h => ?_⟩
  refine wpAny_Call_Name_kw (ld_glob I hg hm ?_ hdb)
  refine PySem.W.callWith_KW0 (h₀ := X.base) I.ok.mod.kin hk hall (thn (hkw.run pos pins s σ H _ I h) fun ws s2 ⟨zs, H2, I2, rz, q2⟩ => ⟨I2.kIn, ?_⟩) hpl
  rw [hks]
  exact run_fnk F hr hb hx I2 .nil rz q2
theorem run_fnkG {pins : List (Addr × Obj)} {σ : L2.St} {H : Hp} {s : Shared} {Q : VK} {us ws : List Value} {vs zs : List V} (F : FnG X.prog X.w X.K X.mg X.base CX k f fd ps sp) (g0 : G0 X.A) (hr : Room k X.A) (hb : KBinds X.K fd ps ks g gV) (hx : Passes CX X E)
    (I : Inv X pins σ H s) (r : Vals vs us) (rz : Vals zs ws) (h : sp (gV vs zs) H Q E) : wpAny (model X.prog X.w) X.A (call (.ref f) us (ks.zip ws)) (EP X pins σ Q) X.xe s := by
  have r2 := hb.rel r rz
  have hl : (g us ws).length = ps.length := by rw [← r2.length]; exact F.size _ _ _ _ h
  refine wpAny_call (codeAny_mono (F.go X.A X.stack s H ⟨us, ks.zip ws⟩ (g us ws) (gV vs zs) Q E g0 hr I.env0 (hb.to s us ws I.kIn hl) r2 h) fun r s' hq => ?_)
  cases r with
  | error e => exact hx pins σ H s e s' I hq
  | ok fl =>
    cases fl with
    | ret u => exact I.after hq
    | next => exact False.elim hq
    | brk => exact False.elim hq
    | cont => exact False.elim hq
theorem pe_callKG (F : FnG X.prog X.w X.K X.mg X.base CX k f fd ps sp) (g0 : G0 X.A) (hr : Room k X.A) (hg : Gl X x) (hm : X.mg x = some (.ref f)) (hk : PySem.W.keepIn X.K (.ref f) = true) (hb : KBinds X.K fd ps ks g gV) (hx : Passes CX X E)
    (ha : PA X (e :: es) t) (hkw : PK X kws tk) (hall : (backToKw pos (keywordEach kws X.env)).all (·.1.isSome) = true := by rfl) (hks : (backToKw pos (keywordEach kws X.env)).filterMap (·.1) = ks := by rfl)
    (hdb : (x == ("__debug__" : Str)) = false := by decide) (he : starEach (e :: es) X.env = (false, eval e X.env) :: starEach es X.env := by rfl)
    (hpl : ((backTo pos (starEach (e :: es) X.env)).any (·.1) || (backToKw pos (keywordEach kws X.env)).any (·.1.isNone)) = false := by rfl) :
    PE X (.Call (.Name x p) (e :: es) kws pos) (tCallK sp gV E t tk) := by
  refine ⟨fun pins s σ H Q I h => ?_⟩
  refine wpAny_Call_Name_kw (ld_glob I hg hm ?_ hdb)
  refine PySem.W.callWith_KW (h₀ := X.base) I.ok.mod.kin hk hall (thn (ha.run pos pins s σ H _ I h) fun us s1 ⟨vs, H1, I1, r, q⟩ => ?_) hpl he
  refine thn (hkw.run pos pins s1 σ H1 _ I1 q) fun ws s2 ⟨zs, H2, I2, rz, q2⟩ => ⟨I2.kIn, ?_⟩
  rw [hks]
  exact run_fnkG F g0 hr hb hx I2 r rz q2
end
end BC

set_option Elab.async false
set_option linter.all false
set_option maxRecDepth 100000
set_option maxHeartbeats 4000000
/-! super() in a method: its def's context (the cell __class__ captured), judgements at a known activation, super().m() -/
namespace SUX
open PySem PySem.Spec PyProof.Rows L2 BC NdefX
/-- what must be known of a def that says super(): D is the class in whose body it stands -/
structure SupE (X : Cx) (D : Addr) : Prop where
  ks : X.env.kindOf "super" = some .globalImplicit
  kc : X.env.kindOf "__class__" = some .free
  sup : X.mg "super" = none
  op : PySem.W.nsIn X.K cStatics "thirdparty.any" = some none
  top : (X.prog.main.scope.names.lookup ("super" : Str)).isSome = false
  fn : ∃ f of fd ar, X.env.func = some f ∧ X.K.lookup f = some of ∧ of.data = .func fd ∧ (fd.params.posonlyargs ++ fd.params.args).head? = some ar ∧ X.N[0]? = some ar.arg ∧ X.env.kindOf ar.arg = some .local
  cd : ∃ cda oc vs file tf, X.env.code = .ref cda ∧ X.K.lookup cda = some oc ∧ oc.data = .fields vs ∧ vs[2]? = some (.str file tf) ∧ ((X.prog.main.file : Str) == file) = true
  cl : ∃ cc cl cld csl, X.env.cells.lookup ("__class__" : Str) = some cc ∧ X.K.lookup cc = some ⟨cl, cld, .cell (some (.ref D)), csl⟩
  cls : ∃ cdD, PySem.W.clsIn X.K D = some cdD
/-- what the class C of an object has behind D -/
structure SupOf (K : PySem.W.Frag) (D C : Addr) (m : Str) (f : Addr) : Prop where
  sub : PySem.W.mroIn K C (.ref D) = some true
  at_ : PySem.W.ks_superIn K C D m = some (some (.ref f))
  ty : PySem.W.typeIn K (.ref f) = some (.type "function")
  fi : PySem.W.fnIn K f = true
section
variable {X : Cx} {D : Addr} {pins : List (Addr × Obj)} {σ : L2.St} {H : Hp} {s : Shared}
theorem cls_obj {K : PySem.W.Frag} {h : Heap} {D : Addr} {cd : ClassData} (k : K.In h) (e : PySem.W.clsIn K D = some cd) : ∃ o, h.get? D = some o ∧ o.data = .cls cd := by
  unfold PySem.W.clsIn at e
  split at e
  · rename_i c d cd' sl ho
    cases e
    exact ⟨_, k _ _ ho, rfl⟩
  · cases e
theorem not_cls {K : PySem.W.Frag} {h : Heap} {x C : Addr} {ox : Obj} {cd : ClassData} (k : K.In h) (I : h.get? x = some ox) (no : PySem.W.notCls ox = true) (hc : PySem.W.clsIn K C = some cd) : x ≠ C := by
  rintro rfl
  unfold PySem.W.clsIn at hc
  split at hc
  · rename_i c d cd' sl ho
    have e := k _ _ ho
    rw [I] at e
    cases e
    exact Bool.noConfusion no
  · cases hc
/-- super() as the base of an attribute: the super object, then its method bound -/
theorem sup_base {b0 : List Stmt} {p0 p1 : Pos} {m : Str} {whole : Sem Value} {pl : Sem Bool} {Q : Value × List Value → Shared → Prop} {a C f dx : Addr} {fs : List (Str × V)} (S : SupE X D) (I : Inv X pins σ H s) (h0 : σ[0]? = some (some (.ref a))) (ea : H a = some (.ins C dx fs)) (so : SupOf X.K D C m f)
    (hm : (m == ("__class__" : Str)) = false) (h : ∀ q s', Inv X pins σ H s' → PySem.W.MethP X.K q f (.ref a) s'.heap → Q (.ref q, []) s') :
    _root_.PySem.wpAt (model X.prog X.w) X.A (.func b0 X.env) (attributeBase (.Call (.Name "super" p0) [] [] p1) m X.env whole) (fun ov s₁ => wpAny (model X.prog X.w) X.A (getMethod ov m pl) Q X.xe s₁) X.xe s := by
  obtain ⟨f0, of0, fd0, ar, e1, e2, e3, e4, e5, e6⟩ := S.fn
  obtain ⟨cda, oc, vs, file, tf, c1, c2, c3, c4, c5⟩ := S.cd
  obtain ⟨cc, cl, cld, csl, l1, l2⟩ := S.cl
  obtain ⟨cdD, hD⟩ := S.cls
  obtain ⟨mA, O, _, _, _, _⟩ := ins_get I.hok ea
  obtain ⟨od, J, _⟩ := O.look
  refine PySem.ks_wpAt_super_base S.ks S.kc hm e1 (I.kIn _ _ e2) e3 e4 c1 (I.kIn _ _ c2) c3 c4 c5 S.top ?_
  obtain ⟨mb, h1, h2⟩ := I.mod.blt
  refine PySem.W.ks_loadName_global I.ok.kind S.ks (Calls.loadGlobal_builtin (by rw [I.ok.glob]; exact I.mod.glob.keeps I.bk) S.sup (by rw [I.ok.blt]; exact h1.keeps I.bk) ((h2 "super" (by decide)).trans (by decide +kernel)) ⟨rfl, ?_⟩)
  refine wpAny_loadName_free I.ok.kind S.kc l1 ⟨_, I.kIn _ _ l2, rfl⟩ ?_
  obtain ⟨mL, hn, hl⟩ := I.loc
  obtain ⟨u, ru, lk⟩ := hl 0 ar.arg (.ref a) e5 h0 (.inl e6)
  obtain rfl : u = Value.ref a := ru
  have hv : mL ar.arg = some (.ref a) := by
    rcases lk with ⟨_, q⟩ | ⟨q, _⟩
    · exact q
    · rcases q with q | q <;> rw [e6] at q <;> cases q
  refine wpAny_loadName_local I.ok.kind e6 hn hv ?_
  obtain ⟨oD, hD1, hD2⟩ := cls_obj I.kIn hD
  refine PySem.ks_wpAny_isType_cls hD1 hD2 ⟨rfl, ?_⟩
  refine PySem.ks_wpAny_call_super hD1 hD2 J.at_ J.cls (fun c e => ?_) (PySem.W.looks_mroIn I.kIn so.sub) (fun h' e k => ?_)
  · have := J.no
    unfold PySem.W.notCls at this
    rw [e] at this
    exact Bool.noConfusion this
  · have I2 : Inv X pins σ H { s with heap := h' } := I.kept (t' := s.toks) k
    obtain ⟨cd, hcd⟩ : ∃ cd, PySem.W.clsIn X.K C = some cd := by
      cases hc : PySem.W.clsIn X.K C with
      | none =>
        have := so.at_
        unfold PySem.W.ks_superIn at this
        rw [hc] at this
        cases this
      | some cd => exact ⟨cd, rfl⟩
    have hal := so.at_
    unfold PySem.W.ks_superIn at hal
    rw [hcd] at hal
    obtain ⟨of, hof, hofc⟩ : ∃ of, h'.get? f = some of ∧ of.cls = .type "function" := by
      have ht' : (X.K.lookup f).map (·.cls) = some (.type "function") := so.ty
      cases z : X.K.lookup f with
      | none => rw [z] at ht'; cases ht'
      | some of => rw [z] at ht'; exact ⟨of, I2.kIn _ _ z, Option.some.inj ht'⟩
    refine PySem.ks_wpAny_getMethod_super e (PySem.W.looks_opaque I2.kIn S.op) (l₀ := cd.mro) ?_ rfl I2.kIn hal hof hofc (not_cls I2.kIn (k _ _ J.at_) J.no hcd) hm ?_
    · exact fun A Q E s k q => wpAny_bind ((PySem.W.looks_clsIn I2.kIn hcd) A _ E s k (wpAny_pure q))
    · have I3 : Inv X pins σ H { s with heap := h'.push { cls := .type "method", data := .fields #[.ref f, .ref a] }, toks := s.toks + 1 } := I2.kept (fun b o e => Heap.get?_push_of_some _ e)
      exact h _ _ I3 ⟨Heap.get?_push_at rfl rfl, I3.kIn⟩
/-- an expression at a known activation -/
structure PEat (X : Cx) (b0 : List Stmt) (e : Expr) (t : TE) : Prop where
  run : ∀ (pins : List (Addr × Obj)) (s : Shared) (σ : L2.St) (H : Hp) (Q : VK), Inv X pins σ H s → t σ H Q → _root_.PySem.wpAt (model X.prog X.w) X.A (.func b0 X.env) (eval e X.env) (EP X pins σ Q) X.xe s
structure PSat (X : Cx) (b0 : List Stmt) (st : Stmt) (t : TS) : Prop where
  run : ∀ (pins : List (Addr × Obj)) (s : Shared) (σ : L2.St) (H : Hp) (D : Ends), Inv X pins σ H s → t D σ H → _root_.PySem.wpAt (model X.prog X.w) X.A (.func b0 X.env) (exec st X.env) (SP X pins D) X.xe s
structure PSsAt (X : Cx) (b0 : List Stmt) (sts : List Stmt) (t : TS) : Prop where
  run : ∀ (pins : List (Addr × Obj)) (s : Shared) (σ : L2.St) (H : Hp) (D : Ends), Inv X pins σ H s → t D σ H → _root_.PySem.wpAt (model X.prog X.w) X.A (.func b0 X.env) (execs sts X.env) (SP X pins D) X.xe s
def tSup1 (K : PySem.W.Frag) (D : Addr) (m : Str) (f : Addr) (sp : Sp) (dvs : List V) (E : XK) : TE := fun σ H Q => ∃ a C dx fs, σ[0]? = some (some (.ref a)) ∧ H a = some (.ins C dx fs) ∧ SupOf K D C m f ∧ sp (.ref a :: dvs) H Q E
def tSup2 (K : PySem.W.Frag) (D : Addr) (m : Str) (f1 : Addr) (sp1 : Sp) (f2 : Addr) (sp2 : Sp) (E : XK) : TE := fun σ H Q => tSup1 K D m f1 sp1 [] E σ H Q ∨ tSup1 K D m f2 sp2 [] E σ H Q
section
variable {K : PySem.W.Frag} {Q : VK} {sp : Sp} {m : Str} {f : Addr} {E : XK} {dvs : List V}
theorem x_sup1 : tSup1 K D m f sp dvs E σ H Q = ∃ a C dx fs, σ[0]? = some (some (.ref a)) ∧ H a = some (.ins C dx fs) ∧ SupOf K D C m f ∧ sp (.ref a :: dvs) H Q E := rfl
end
section
variable {b0 : List Stmt} {CX : CXT} {k k2 : Nat} {f f2 : Addr} {fd fd2 : FuncData} {ps ps2 : List Str} {sp sp2 : Sp} {dvs : List V} {ds : List Value} {E : XK} {m : Str} {p0 p1 apos pos : Pos} {pl : Sem Bool}
theorem pat_sup1 (S : SupE X D) (F : FnOk X.prog X.w X.K X.mg X.base CX k f fd ps sp) (hr : Room k X.A) (hb : Binds X.K fd ps ds) (hd : Vals dvs ds) (hx : Passes CX X E) (hm : (m == ("__class__" : Str)) = false := by decide)
    (he : eval (.Call (.Attribute (.Call (.Name "super" p0) [] [] p1) m apos) [] [] pos) X.env = (do
      let ov ← attributeBase (.Call (.Name "super" p0) [] [] p1) m X.env (eval (.Call (.Name "super" p0) [] [] p1) X.env)
      standAt apos.atName
      let (f, first) ← holding [ov] (getMethod ov m pl)
      callWith pos f first (backTo pos (starEach [] X.env)) []) := by rfl) : PEat X b0 (.Call (.Attribute (.Call (.Name "super" p0) [] [] p1) m apos) [] [] pos) (tSup1 X.K D m f sp dvs E) := by
  refine ⟨fun pins s σ H Q I h => ?_⟩
  obtain ⟨a, C, dx, fs, h0, ea, so, hsp⟩ := h
  refine PySem.ks_wpAt_MethodCall (args := []) (pl := pl) (sup_base S I h0 ea so hm fun q s' I' hq => ?_) he
  refine PySem.W.callWith_M0 (first := []) hq so.fi (wpAny_call (PySem.W.method_call hq.1 ?_))
  have r2 : Vals (.ref a :: dvs) ([.ref a] ++ ds) := Vals.append (xs := [V.ref a]) (us := [Value.ref a]) (.cons rfl .nil) hd
  have hl : ([Value.ref a] ++ ds).length = ps.length := by rw [← r2.length]; exact F.len _ _ _ _ hsp
  refine codeAny_mono (F.run X.A X.stack s' H ⟨[.ref a], []⟩ ([.ref a] ++ ds) (.ref a :: dvs) Q E hr I'.env0 (hb s' [.ref a] I'.kIn hl) r2 hsp) fun r s2 hq2 => ?_
  cases r with
  | error e => exact hx pins σ H s' e s2 I' hq2
  | ok fl =>
    cases fl with
    | ret u => exact I'.after hq2
    | next => exact False.elim hq2
    | brk => exact False.elim hq2
    | cont => exact False.elim hq2
theorem pat_sup2 (S : SupE X D) (F : FnOk X.prog X.w X.K X.mg X.base CX k f fd ps sp) (hr : Room k X.A) (hb : Binds X.K fd ps []) (F2 : FnOk X.prog X.w X.K X.mg X.base CX k2 f2 fd2 ps2 sp2) (hr2 : Room k2 X.A) (hb2 : Binds X.K fd2 ps2 []) (hx : Passes CX X E) (hm : (m == ("__class__" : Str)) = false := by decide)
    (he : eval (.Call (.Attribute (.Call (.Name "super" p0) [] [] p1) m apos) [] [] pos) X.env = (do
      let ov ← attributeBase (.Call (.Name "super" p0) [] [] p1) m X.env (eval (.Call (.Name "super" p0) [] [] p1) X.env)
      standAt apos.atName
      let (f, first) ← holding [ov] (getMethod ov m pl)
      callWith pos f first (backTo pos (starEach [] X.env)) []) := by rfl) : PEat X b0 (.Call (.Attribute (.Call (.Name "super" p0) [] [] p1) m apos) [] [] pos) (tSup2 X.K D m f sp f2 sp2 E) :=
  ⟨fun pins s σ H Q I h => h.elim (fun h => (pat_sup1 S F hr hb .nil hx hm he).run pins s σ H Q I h) (fun h => (pat_sup1 S F2 hr2 hb2 .nil hx hm he).run pins s σ H Q I h)⟩
variable {e l r : Expr} {te tl tr : TE} {st : Stmt} {rest : List Stmt} {t u : TS} {op : Operator} {ro : R2}
theorem pat_of (h : PE X e te) : PEat X b0 e te := ⟨fun pins s σ H Q I q => PySem.wpAt_of_wpAny (h.run pins s σ H Q I q)⟩
theorem pat_bin (hl : PEat X b0 l tl) (hr : PE X r tr) (ho : OpR X (binaryOp op) ro) : PEat X b0 (.BinOp l op r pos) (tOp ro tl tr) := by
  refine ⟨fun pins s σ H Q I h => ?_⟩
  refine PySem.ks_wpAt_BinOp (PySem.ks_wpAt_mono (hl.run pins s σ H _ I h) (fun a s1 ⟨x, H1, I1, rx, q1⟩ => ?_) fun _ _ z => z)
  exact thn (hr.run pins s1 σ H1 _ I1 q1) fun b s2 ⟨y, H2, I2, ry, q2⟩ => ho pins s2 σ H2 x y a b Q I2 rx ry q2
theorem psa_of (h : PS X st t) : PSat X b0 st t := ⟨fun pins s σ H D I q => PySem.wpAt_of_wpAny (h.run pins s σ H D I q)⟩
theorem pssa_of {sts : List Stmt} (h : PSs X sts t) : PSsAt X b0 sts t := ⟨fun pins s σ H D I q => PySem.wpAt_of_wpAny (h.run pins s σ H D I q)⟩
theorem psa_expr (he : PEat X b0 e te) (hs : swapsWith e none pos.line X.env = pure false := by rfl) : PSat X b0 (.Expr e pos) (tDrop te) :=
  ⟨fun pins s σ H D I h => PySem.ks_wpAt_Expr_any (PySem.ks_wpAt_mono (he.run pins s σ H _ I h) (fun v s1 ⟨x, H1, I1, r1, q1⟩ => ⟨σ, H1, I1, q1⟩) fun _ _ z => z) I.quiet hs⟩
theorem psa_ret (he : PEat X b0 e te) : PSat X b0 (.Return (some e) pos) (tRet te) :=
  ⟨fun pins s σ H D I h => PySem.ks_wpAt_Return_some (PySem.ks_wpAt_mono (he.run pins s σ H _ I h) (fun v s1 ⟨x, H1, I1, r1, q1⟩ => ⟨x, σ, H1, I1, r1, q1⟩) fun _ _ z => z)⟩
theorem pssa_cons (h1 : PSat X b0 st t) (h2 : PSsAt X b0 rest u) : PSsAt X b0 (st :: rest) (tSeq t u) := by
  refine ⟨fun pins s σ H D I h => ?_⟩
  refine PySem.ks_wpAt_execs_cons (PySem.ks_wpAt_mono (h1.run pins s σ H { D with nx := u D } I h) (fun f s1 q => ?_) fun _ _ z => z)
  cases f with
  | next =>
    obtain ⟨σ', H', I', q⟩ := q
    exact h2.run pins s1 σ' H' D I' q
  | ret v => exact q
  | brk => exact q
  | cont => exact q
theorem pssa_one (h1 : PSat X b0 st t) : PSsAt X b0 [st] t := by
  refine ⟨fun pins s σ H D I h => ?_⟩
  refine PySem.ks_wpAt_execs_cons (PySem.ks_wpAt_mono (h1.run pins s σ H D I h) (fun f s1 q => ?_) fun _ _ z => z)
  cases f with
  | next => exact PySem.wpAt_of_wpAny (wpAny_execs_nil q)
  | ret v => exact q
  | brk => exact q
  | cont => exact q
end
end
/-! ### the def -/
/-- a def of a class body that says super(): its object, its cell, its code's record; dV its defaults -/
structure FunS (P : Program) (K : PySem.W.Frag) (x qual : Str) (st : Stmt) (f cc cda D : Addr) (fd : FuncData) : Prop where
  ex : ∃ (oc : Value) (od : Option Addr) (dV kV doc pm : Value) (an : Option Addr) (ct : Value) (osl : Array (Option Value)), fd = PySem.W.fnX x qual (defArgs st) (defBody st) (defScope st) [("__class__", cc)] dV kV doc pm an (.ref cda) ct ∧ K.lookup f = some ⟨oc, od, .func fd, osl⟩
  hcd : PySem.W.codeIn K (.ref cda) qual = true
  kp : PySem.W.keepIn K (.ref f) = true
  code : ∃ ccl cdd vs ccs file tf, K.lookup cda = some ⟨ccl, cdd, .fields vs, ccs⟩ ∧ vs[2]? = some (.str file tf) ∧ ((P.main.file : Str) == file) = true
  top : (P.main.scope.names.lookup ("super" : Str)).isSome = false
  cell : ∃ cl cld csl, K.lookup cc = some ⟨cl, cld, .cell (some (.ref D)), csl⟩
  cls : ∃ cdD, PySem.W.clsIn K D = some cdD
  op : PySem.W.nsIn K cStatics "thirdparty.any" = some none
abbrev nfS (x qual : Str) (st : Stmt) (cc cda : Addr) : NF := ⟨x, qual, defArgs st, defBody st, defScope st, [("__class__", cc)], cda⟩
abbrev cxS (CX : CXT) (P : Program) (w : World) (K : PySem.W.Frag) (mg : Str → Option Value) (base : Heap) (N : List Str) (x qual : Str) (st : Stmt) (f cc cda : Addr) (A : Around) (outer : List Env) (s : Shared) (H : Hp) (E : XK) : Cx := ncx CX P w K mg base N (nfS x qual st cc cda) f A outer s H E
section
variable {CX : CXT} {P : Program} {w : World} {K : PySem.W.Frag} {mg : Str → Option Value} {base : Heap} {x qual : Str} {st : Stmt} {f cc cda D : Addr} {fd : FuncData} {N ps : List Str} {k : Nat} {sp : Sp}
theorem FunS.supE (F : FunS P K x qual st f cc cda D fd) (S : NScope N ps ["__class__"] (defScope st)) (hsup : mg "super" = none) (hks : (defScope st).names.lookup ("super" : Str) = some .globalImplicit) {ar : Arg} (har : ((defArgs st).posonlyargs ++ (defArgs st).args).head? = some ar) (hn : ps[0]? = some ar.arg)
    {A : Around} {outer : List Env} {s : Shared} {H : Hp} {E : XK} : SupE (cxS CX P w K mg base N x qual st f cc cda A outer s H E) D := by
  obtain ⟨oc, od, dV, kV, doc, pm, an, ct, osl, e, lk⟩ := F.ex
  obtain ⟨ccl, cdd, vs, ccs, file, tf, c1, c2, c3⟩ := F.code
  obtain ⟨cl, cld, csl, l1⟩ := F.cell
  refine ⟨hks, S.frk _ (by simp), hsup, F.op, F.top, ⟨f, _, fd, ar, rfl, lk, rfl, by rw [e]; exact har, ?_, S.par _ (List.mem_of_getElem? hn)⟩, ⟨cda, _, vs, file, tf, rfl, c1, rfl, c2, c3⟩, ⟨cc, cl, cld, csl, (by show ([("__class__", cc)] : List (Str × Addr)).lookup ("__class__" : Str) = some cc; rw [List.lookup_cons]; simp), l1⟩, F.cls⟩
  have h0 : 0 < ps.length := (List.getElem?_eq_some_iff.mp hn).1
  have hp := S.pre
  have : (ps ++ [("__class__" : Str)])[0]? = some ar.arg := by rw [List.getElem?_append_left h0]; exact hn
  rw [← hp, List.getElem?_take_of_lt (by simp)] at this
  exact this
theorem fnS_of (F : FunS P K x qual st f cc cda D fd) (S : NScope N ps ["__class__"] (defScope st)) (len : ∀ vs H Q E, sp vs H Q E → vs.length = ps.length)
    (hbody : ∀ (A : Around) (outer : List Env) (s : Shared) (H : Hp) (vs : List V) (Q : VK) (E : XK), Room k (A.deeper (envF (nfS x qual st cc cda) f s.heap.objs.size)) → sp vs H Q E →
      ∃ t, PSsAt (cxS CX P w K mg base N x qual st f cc cda A outer s H E) (defBody st) (defBody st) t ∧ t { nx := fun _ H' => Q .non H', rt := Q } (startF N vs [none]) H) : FnOk P w K mg base CX (k + 1) f fd ps sp := by
  refine ⟨len, fun A outer s H args us vs Q E hr e0 hb r hsp => ?_⟩
  have hl := len _ _ _ _ hsp
  have KX : K.In s.heap := e0.mod.kin.keeps fun b o e => (e0.bs b o e).1
  have lim : s.heap.NoLimit := e0.mod.nolimit.keeps fun b o e => (e0.bs b o e).1
  obtain ⟨oc, od, dV, kV, doc, pm, an, ct, osl, e, lk⟩ := F.ex
  obtain ⟨cl, cld, csl, l1⟩ := F.cell
  have C : CellsAt (nfS x qual st cc cda).cl ["__class__"] [none] s.heap H := by
    have one : ∀ (y : Str) (c : Addr), ([("__class__", cc)] : List (Str × Addr)).lookup y = some c → y = "__class__" ∧ c = cc := fun y c h => by
      have := PySem.mem_of_lookup h
      rw [List.mem_singleton] at this
      cases this
      exact ⟨rfl, rfl⟩
    refine ⟨rfl, fun y c h => ?_, fun y z c h1 h2 => (one y c h1).1.trans (one z c h2).1.symm, fun i y h => ?_⟩
    · obtain ⟨rfl, rfl⟩ := one y c h
      exact ⟨(e0.bs _ _ (e0.mod.kin _ _ l1)).2, _, _, KX _ _ l1, rfl⟩
    · have hi : i = 0 := by
        have := (List.getElem?_eq_some_iff.mp h).1
        simp at this
        exact this
      subst hi
      cases h
      exact ⟨cc, by simp [List.lookup], fun v h => by cases h⟩
  subst e
  refine codeAny_call_function hr.depth (KX _ _ lk) rfl S.co S.gen rfl (PySem.W.codeRec_of KX F.hcd) (hb _ _ _ _ ?_)
  refine wpAny_newFunctionEnv S.nocell (fun ⟨n, _⟩ hy => S.par n (List.of_mem_zip hy).1) (fun h₁ hns hsb => ⟨lim.fresh _ hsb, ?_⟩) S.kind
  show codeAny _ _ (.func (defBody st) (envF (nfS x qual st cc cda) f s.heap.objs.size)) _ _
  refine PySem.ks_codeAny_funcAt ?_
  have kp : ∀ b o, s.heap.get? b = some o → h₁.get? b = some o := fun b o e => hsb.extBut b o (Nat.ne_of_lt (Heap.lt_size e)) (Heap.get?_push_of_some _ e)
  obtain ⟨t, ht, hq⟩ := hbody A outer s H vs Q E (hr.deeper _) hsp
  have I : Inv (cxS CX P w K mg base N x qual st f cc cda A outer s H E) [] (startF N vs [none]) H { s with heap := h₁, toks := s.toks + (ps.zip us).length } := inv_startN S hr.hd e0 hl r C hns kp
  refine PySem.ks_wpAt_mono (ht.run [] _ (startF N vs [none]) H _ I hq) (fun fl s' hs => ?_) fun e s' hs => hs
  have fin : ∀ {σ' : L2.St} {H' : Hp} {v : V} {u : Value}, Inv (cxS CX P w K mg base N x qual st f cc cda A outer s H E) [] σ' H' s' → L2.RelV v u → Q v H' → CE outer P w H s Q u s' :=
    fun {σ' H' v u} J rv q => ⟨v, H', J.os, J.bare, J.base, J.hok, rv, q⟩
  cases fl with
  | ret u =>
    obtain ⟨v, σ', H', J, rv, q⟩ := hs
    exact fin J rv q
  | next =>
    obtain ⟨σ', H', J, q⟩ := hs
    exact fin (v := V.non) (u := Value.none) J rfl q
  | brk =>
    obtain ⟨_, _, _, q⟩ := hs
    exact False.elim q
  | cont =>
    obtain ⟨_, _, _, q⟩ := hs
    exact False.elim q
end
end SUX

set_option Elab.async false
set_option linter.all false
set_option maxRecDepth 100000
set_option maxHeartbeats 4000000
/-! xs[:] = ys -/
namespace BC
open PySem PySem.Spec PyProof.Rows L2 Evl
theorem bounds_all (n : Nat) : sliceBounds none none none n = (((0 : Nat) : Int), ((n : Nat) : Int), 1) := by
  simp [sliceBounds]
section
variable {prog : Program} {w : World} {A : Around} {s : Shared} {E : Value → Shared → Prop}
theorem setItem_all {l b sl : Addr} {items new : Array Value} {n n2 : Nat} {vl vu : Value} {Q : Unit → Shared → Prop}
    (e : s.heap.get? l = some { cls := .type "list", data := .seq items n }) (e2 : s.heap.get? b = some { cls := .type "list", data := .seq new n2 }) (hne : l ≠ b)
    (hs : s.heap.IsSliceOf sl vl vu .none) (pl : IsPart vl none) (pu : IsPart vu none)
    (hsz : items.size + new.size ≤ sizeLine) (h : Q () { s with heap := s.heap.update l (Obj.mapSeq fun xs => xs.extract 0 0 ++ new ++ xs.extract items.size xs.size) }) :
    wpAny (model prog w) A (setItem (.ref l) (.ref sl) (.ref b)) Q E s := by
  have hl : s.heap.IsList l items := PySem.IsL.isList e
  have hb : s.heap.IsList b new := PySem.IsL.isList e2
  obtain ⟨os, hos, hcs, hds⟩ := id hs
  have hTs : s.TypeIs (.ref sl) "slice" := ⟨os, hos, hcs⟩
  have hstep : ¬ ((rawPart none == rawInt 0) = true) := Bool.false_ne_true
  have hsame : Builtin.List.listSameRef (.ref l) (.ref b) = false := by
    unfold Builtin.List.listSameRef
    exact beq_eq_false_iff_ne.mpr hne
  have hmax : (max ((0 : Nat) : Int) ((items.size : Nat) : Int)).toNat = items.size := by omega
  have hz' : ((fun xs : Array Value => xs.extract 0 0 ++ new ++ xs.extract items.size xs.size) items).size ≤ sizeLine + 1 := by
    simp only [Array.size_append, Array.size_extract]
    omega
  unfold setItem
  try with_reducible refine wpAny_holding ?_
  first | refine wpAny_bind (wpAny_pure ?_) | skip
  refine wpAny_bind (wpAny_sequenceKey hl.typeIs (by decide) ?_)
  refine wpAny_bind (wpAny_callSpecial?_slot (name := Str.ofString "__setitem__") hl.typeIs slot_list_setitem
    (wpAny_call_entry slot_list_setitem hl.typeIs entry_list_setitem ?_ (args_list_setitem _ _ _)))
  show wpAny _ _ (Builtin.List.listSubscript? (.ref sl) >>= _) _ _ s
  refine wpAny_bind ?_
  unfold Builtin.List.listSubscript?
  refine wpAny_bind (wpAny_specialOf hTs slice_no_index ?_)
  simp only [Option.isNone_none, if_true]
  refine wpAny_pure ?_
  show wpAny _ _ (typeOf (.ref sl) >>= _) _ _ s
  refine wpAny_bind (wpAny_typeOf hTs ?_)
  first
    | rw [if_neg (by decide)]
    | refine PySem.W.KFB.if_not (by decide) ?_
  rw [listSliceParts_eq]
  refine wpAny_bind (wpAny_bind (wpAny_field hos hds (x := .none) rfl (wpAny_bind (wpAny_listPart .none ?_))))
  rw [if_neg hstep]
  refine wpAny_bind (wpAny_field hos hds (x := vl) rfl (wpAny_bind (wpAny_listPart pl ?_)))
  refine wpAny_bind (wpAny_field hos hds (x := vu) rfl (wpAny_bind (wpAny_listPart pu (wpAny_pure ?_))))
  first
    | simp only [hsame, Bool.false_eq_true, if_false]
    | refine PySem.W.KFB.if_not hsame ?_
    | (dsimp only
       rw [if_neg (by rw [hsame]; exact Bool.false_ne_true)])
  refine wpAny_bind (m := Builtin.List.listAllItems (.ref b) "must assign iterable to extended slice") ?_
  unfold Builtin.List.listAllItems
  refine wpAny_bind (wpAny_typeOf hb.typeIs ?_)
  first
    | refine PySem.W.KFB.if_so (by decide) ?_
    | rw [if_pos (by decide)]
    | simp only [beq_self_eq_true, Bool.true_or, if_true]
  unfold Builtin.List.listItems
  refine wpAny_bind (wpAny_seqItems e2 rfl (wpAny_pure ?_))
  refine wpAny_bind (wpAny_bind (wpAny_seqItems e rfl (wpAny_pure ?_)))
  refine wpAny_bind (wpAny_of_eq ((sliceIndices_raw none none none items.size (by simp)).trans (congrArg (pure : Int × Int × Int → Sem (Int × Int × Int)) (bounds_all items.size))) ?_)
  show wpAny _ _ (if ((1 : Int) == 1) = true then _ else _) _ _ s
  rw [if_pos (by decide)]
  refine wpAny_bind (wpAny_rule ?_)
  first
    | simp only [notLongL hsz, Bool.false_eq_true, if_false]
    | refine PySem.W.KFB.if_not (notLongL hsz) ?_
  first | refine wpAny_bind (wpAny_pure ?_) | skip
  show wpAny _ _ (updateSeq l (fun xs => xs.extract 0 ((0 : Nat) : Int).toNat ++ new ++ xs.extract (max ((0 : Nat) : Int) ((items.size : Nat) : Int)).toNat xs.size) >>= _) _ _ s
  rw [hmax, Int.toNat_natCast]
  refine wpAny_bind (wpAny_updateSeq (hz := Nat.le_trans (Nat.le_add_right _ _) hsz) (_hz' := hz') e rfl ?_)
  refine wpAny_bind (wpAny_letGo ?_)
  first
    | exact wpAny_bind (wpAny_pure (wpAny_pure ⟨.none, rfl, wpAny_pure h⟩))
    | exact wpAny_pure ⟨.none, rfl, wpAny_pure h⟩
end
section
variable {X : Cx} {o e : Expr} {to : TE} {p2 pos : Pos}
/-- o[:] = v, both lists -/
def gAll (to : TE) : TG := fun v σ H QG => to σ H fun x H1 => ∃ a b xs ys, x = .ref a ∧ v = .ref b ∧ a ≠ b ∧ H1 a = some (.lst xs) ∧ H1 b = some (.lst ys) ∧ xs.length + ys.length ≤ sizeLine ∧ QG σ (upd H1 a (.lst ys))
theorem set_all {pins : List (Addr × Obj)} {s : Shared} {σ : L2.St} {H : Hp} {l b sl : Addr} {xs ys : List V} {vl vu : Value} {Q : Unit → Shared → Prop} (I : Inv X pins σ H s)
    (hH : H l = some (.lst xs)) (hB : H b = some (.lst ys)) (hne : l ≠ b) (hs : s.heap.IsSliceOf sl vl vu .none) (pl : IsPart vl none) (pu : IsPart vu none)
    (hz : xs.length + ys.length ≤ sizeLine) (h : ∀ s', Inv X pins σ (upd H l (.lst ys)) s' → Q () s') :
    wpAny (model X.prog X.w) X.A (setItem (.ref l) (.ref sl) (.ref b)) Q X.xe s := by
  obtain ⟨z, its, n, r, hl, e⟩ := I.lstM hH
  obtain ⟨z2, its2, n2, r2, hl2, e2⟩ := I.lstM hB
  refine setItem_all e e2 hne hs pl pu (by rw [List.size_toArray, List.size_toArray]; omega) (h _ ?_)
  refine I.lset (its' := its2) (t' := s.toks) hH e ?_ r2 (by omega)
  simp
theorem pg_all (ho : PE X o to)
    (ha0 : ∀ v, assign (.Subscript o (.Slice none none none p2) pos) X.env v = (do
      let ov ← holding [v] (eval o X.env)
      let iv ← holding [v, ov] (eval (.Slice none none none p2) X.env)
      standAt pos
      holding [v, ov, iv] (setItem ov iv v)
      release [iv, v, ov] []) := by intro _; rfl) : PG X (.Subscript o (.Slice none none none p2) pos) (gAll to) := by
  refine ⟨fun pins s σ H v u Q I r h => ?_⟩
  rw [ha0]
  refine wpAny_bind (wpAny_holding (thn (ho.run pins s σ H _ I h) fun ov s1 ⟨x, H1, I1, r1, q1⟩ => ?_))
  obtain ⟨a, b, xs, ys, rfl, rfl, hne, ha, hb, hz, q⟩ := q1
  cases r1
  cases r
  refine wpAny_bind (wpAny_holding ?_)
  refine wpAny_Slice ?_
  rw [evalPart_none]
  refine wpAny_pure ?_
  refine wpAny_pure ?_
  refine wpAny_pure ?_
  have I4 : Inv X pins σ H1 { s1 with heap := s1.heap.push { cls := .type "slice", data := .fields #[.none, .none, .none] } } := I1.kept (t' := s1.toks) fun b ob q => Heap.get?_push_of_some _ q
  refine wpAny_bind (wpAny_standAt (wpAny_bind (wpAny_holding ?_)))
  refine set_all I4 ha hb hne (Heap.IsSliceOf.new ..) .none .none hz fun s' I5 => ?_
  exact wpAny_release ⟨σ, _, I5, q⟩
def rDivmod : List V → Hp → VK → Prop := fun xs H Q => ∃ i j, xs = [.int i, .int j] ∧ CDivW i j ∧ ∀ p, H p = none → Q (.ref p) (upd H p (.tup [.int (i / j), .int (i % j)]))
theorem call_dmX : CallR X (.builtin "divmod") rDivmod := by
  intro pins s σ H xs us Q I r h
  obtain ⟨i, j, rfl, hc, q⟩ := h
  obtain ⟨u, u2, rfl, ⟨t, rfl⟩, ⟨t2, rfl⟩⟩ := vals2 r
  have pos : 0 < j := hc.1
  have new := I.hok.fresh (Nat.le_refl s.heap.objs.size)
  refine divmod_int (by omega) ?_ (.inl (PyProof.noPylong_of_log2 hc.2))
  rw [Int.fdiv_eq_ediv_of_nonneg i (by omega), Int.fmod_eq_emod_of_nonneg i (by omega)]
  refine ⟨.ref s.heap.objs.size, _, ?_, rfl, q _ new⟩
  refine I.laid (fun b o e => Heap.get?_push_of_some _ e) (Nat.le_refl _) ⟨?_, [.int (i / j) s.toks, .int (i % j) (s.toks + 1)], .cons ⟨_, rfl⟩ (.cons ⟨_, rfl⟩ .nil), ?_⟩
  · exact Evl.sz_of (by simp)
  · exact ⟨_, Heap.get?_push_size s.heap rfl, rfl, 0, rfl⟩
theorem x_gall {σ : L2.St} {H : Hp} {v : V} {QG : L2.St → Hp → Prop} : gAll to v σ H QG = to σ H fun x H1 => ∃ a b xs ys, x = .ref a ∧ v = .ref b ∧ a ≠ b ∧ H1 a = some (.lst xs) ∧ H1 b = some (.lst ys) ∧ xs.length + ys.length ≤ sizeLine ∧ QG σ (upd H1 a (.lst ys)) := rfl
end
end BC

set_option Elab.async false
set_option linter.all false
set_option maxRecDepth 100000
set_option maxHeartbeats 4000000
/-! comprehensions that change what stands, or whose values are chosen as they come -/
namespace BC
open PySem PySem.Spec PyProof.Rows L2 Evl
section
variable {K : PySem.W.Frag} {σ : L2.St} {H1 : Hp} {g : TG} {te : TE} {vs : List Nat} {Dl : Addr} {Q : VK}
theorem lc_rngE {lo : Int} {n : Nat} (Pv : Nat → Hp → Prop) (h0 : Pv 0 (upd H1 Dl (.lst [])))
    (hs : ∀ i H, i < n → Pv i H → g (.int (lo + i)) (wipe σ vs) H fun σ2 H2 => wipe σ2 vs = wipe σ vs ∧ te σ2 H2 fun y H4 => ∃ acc, H4 Dl = some (.lst acc) ∧ acc.length < sizeLine ∧ Pv (i + 1) (upd H4 Dl (.lst (acc ++ [y]))))
    (hd : ∀ H, Pv n H → Q (.ref Dl) H) : LcG (Itr lo n) g tYes te vs σ Dl H1 Q := by
  refine lc_g n Pv h0 (fun H h => Nat.le_refl _) (fun i H hi h => hi) (fun i H x H' hi h y => ?_) hd
  obtain ⟨rfl, rfl⟩ := y
  have q := hs i _ hi h
  exact q
theorem lc_listE {a : Addr} {xs : List V} (Pv : Nat → Hp → Prop) (h0 : Pv 0 (upd H1 Dl (.lst []))) (hl : ∀ i H, i ≤ xs.length → Pv i H → SqL K H a xs)
    (hs : ∀ i x H, xs[i]? = some x → Pv i H → g x (wipe σ vs) H fun σ2 H2 => wipe σ2 vs = wipe σ vs ∧ te σ2 H2 fun y H4 => ∃ acc, H4 Dl = some (.lst acc) ∧ acc.length < sizeLine ∧ Pv (i + 1) (upd H4 Dl (.lst (acc ++ [y]))))
    (hd : ∀ H, Pv xs.length H → Q (.ref Dl) H) : LcG (Itl K a) g tYes te vs σ Dl H1 Q := by
  refine lc_g xs.length Pv h0 (fun H h => ⟨xs, hl _ H (Nat.le_refl _) h, Nat.le_refl _⟩) (fun i H hi h => ⟨xs, xs[i], hl i H (by omega) h, List.getElem?_eq_getElem hi⟩) (fun i H x H' hi h y => ?_) hd
  obtain ⟨rfl, hf⟩ := y
  exact hs i x _ (hf xs (hl i _ (by omega) h)) h
end
/-- a fourfold tuple unpacked -/
theorem g_four {K : PySem.W.Frag} {σ : L2.St} {H : Hp} {i j l m : Nat} {T : Addr} {x y z u : V} {QG : L2.St → Hp → Prop} (h : H T = some (.tup [x, y, z, u])) (q : QG ((((σ.set i (some x)).set j (some y)).set l (some z)).set m (some u)) H) : gTup K 4 (gCons (gName i) (gCons (gName j) (gCons (gName l) (gCons (gName m) gNil)))) (.ref T) σ H QG :=
  ⟨T, [x, y, z, u], rfl, .inl (.inl h), rfl, x, [y, z, u], rfl, y, [z, u], rfl, z, [u], rfl, u, [], rfl, rfl, q⟩
theorem revL {H : Hp} {Q : VK} {p : Addr} {xs : List V} (h : H p = some (.lst xs)) (q : Q .non (upd H p (.lst xs.reverse))) : rReverse (.ref p) [] H Q := ⟨p, xs, rfl, rfl, h, q⟩
theorem Sh.mono {n m : Nat} {d : PyData} (h : Sh n d) (e : n ≤ m) : Sh m d := by
  induction h generalizing m with
  | non n => exact .non m
  | bl n b => exact .bl m b
  | int n i => exact .int m i
  | str n x => exact .str m x
  | @lst n ds hl h ih =>
    cases m with
    | zero => omega
    | succ m => exact .lst hl fun d hd => ih d hd (by omega)
  | @tup n ds hl h ih =>
    cases m with
    | zero => omega
    | succ m => exact .tup hl fun d hd => ih d hd (by omega)
end BC

set_option Elab.async false
set_option linter.all false
set_option maxRecDepth 100000
set_option maxHeartbeats 4000000
/-! visits and their trails, lists of numbers, their repr -/
namespace BC
open PySem PySem.Spec PyProof.Rows L2 Evl
/-! ### data whose repr is short -/
structure Tm (d : PyData) : Prop where
  s : d.showable = true
  n : d.hasDict = false
  l : d.leavesShort 13 = true
theorem Tm.int {i : Int} (h : i.natAbs < 10 ^ 12) : Tm (.int i) := ⟨by
  show decide (i.natAbs.log2 < 1920) = true
  refine decide_eq_true ?_
  by_cases z : i.natAbs = 0
  · rw [z]; decide
  · exact (Nat.log2_lt z).mpr (Nat.lt_of_lt_of_le h (by decide +kernel)), rfl, by
  show decide (_ ≤ 13) = true
  exact decide_eq_true (PyData.shown_int_le h)⟩
theorem Tm.all {ds : List PyData} (h : ∀ d ∈ ds, Tm d) : PyData.showableAll ds = true ∧ PyData.hasDictAll ds = false ∧ PyData.leavesShortAll 13 ds = true := by
  induction ds with
  | nil => exact ⟨rfl, rfl, rfl⟩
  | cons d ds ih =>
    have a := h d List.mem_cons_self
    obtain ⟨b1, b2, b3⟩ := ih fun e m => h e (List.mem_cons_of_mem _ m)
    refine ⟨?_, ?_, ?_⟩
    · show (d.showable && _) = true
      rw [a.s, b1]; rfl
    · show (d.hasDict || _) = false
      rw [a.n, b2]; rfl
    · show (d.leavesShort 13 && _) = true
      rw [a.l, b3]; rfl
theorem Tm.list {ds : List PyData} (h : ∀ d ∈ ds, Tm d) : Tm (.list ds) := ⟨by simp only [PyData.showable]; exact (Tm.all h).1, by simp only [PyData.hasDict]; exact (Tm.all h).2.1, by simp only [PyData.leavesShort]; exact (Tm.all h).2.2⟩
theorem Tm.tuple {ds : List PyData} (h : ∀ d ∈ ds, Tm d) : Tm (.tuple ds) := ⟨by simp only [PyData.showable]; exact (Tm.all h).1, by simp only [PyData.hasDict]; exact (Tm.all h).2.1, by simp only [PyData.leavesShort]; exact (Tm.all h).2.2⟩
theorem wt_int {i : Int} (h : i.natAbs < 2 ^ 40) : (PyData.int i).weight ≤ 40 := by
  simp only [PyData.weight]
  split
  · omega
  · next z =>
    have z0 : i.natAbs ≠ 0 := fun e => z (by rw [Int.natAbs_eq_zero.mp e]; rfl)
    have := (Nat.log2_lt z0).mpr h
    omega
theorem wt_all {ds : List PyData} {n : Nat} (h : ∀ d ∈ ds, d.weight ≤ n) : PyData.weightAll ds ≤ (n + 1) * ds.length := by
  induction ds with
  | nil => simp [PyData.weightAll]
  | cons d ds ih =>
    have a := h d List.mem_cons_self
    have b := ih fun e m => h e (List.mem_cons_of_mem _ m)
    simp only [PyData.weightAll, List.length_cons, Nat.mul_add]
    omega
theorem dep_all {ds : List PyData} {n : Nat} (h : ∀ d ∈ ds, d.depth ≤ n) : PyData.depthAll ds ≤ n := by
  induction ds with
  | nil => simp [PyData.depthAll]
  | cons d ds ih =>
    have a := h d List.mem_cons_self
    have b := ih fun e m => h e (List.mem_cons_of_mem _ m)
    simp only [PyData.depthAll]
    omega
section
variable {K : PySem.W.Frag} {H : Hp} {Q : VK} {a : Addr}
theorem reprX {d : PyData} (h : Dp K H (.ref a) d) (t : Tm d) (dp : d.depth ≤ 60) (wt : d.weight ≤ 2 ^ 20) (q : Q (.str d.shown) H) : rRepr K [.ref a] H Q :=
  ⟨a, d, rfl, h, t.s, dp, t.n, PyData.shown_fits (B := 13) (by decide) (by decide) t.l wt, q⟩
/-- what repr of a list of numbers says -/
def shInts (ns : List Int) : Str := (PyData.list (ns.map PyData.int)).shown
theorem reprInts {ns : List Int} (h : SqL K H a (ns.map V.int)) (hs : ∀ n ∈ ns, n.natAbs < 10 ^ 12) (hl : ns.length ≤ 20000) (q : Q (.str (shInts ns)) H) : rRepr K [.ref a] H Q := by
  refine reprX (.lst h (dp_ints ns)) (.list fun d m => ?_) ?_ ?_ q
  · obtain ⟨n, hn, rfl⟩ := List.mem_map.mp m
    exact .int (hs n hn)
  · simp only [PyData.depth]
    have := dep_all (ds := ns.map PyData.int) (n := 0) fun d m => by
      obtain ⟨n, hn, rfl⟩ := List.mem_map.mp m
      simp [PyData.depth]
    omega
  · simp only [PyData.weight]
    have := wt_all (ds := ns.map PyData.int) (n := 40) fun d m => by
      obtain ⟨n, hn, rfl⟩ := List.mem_map.mp m
      exact wt_int (Nat.lt_of_lt_of_le (hs n hn) (by decide +kernel))
    rw [List.length_map] at this
    omega
/-! ### in, index, a part of a list of numbers -/
theorem flat_ints (ns : List Int) : (ns.map V.int).all flatV = true := by
  rw [List.all_eq_true]
  intro x hx
  obtain ⟨n, _, rfl⟩ := List.mem_map.mp hx
  rfl
theorem inV_ints (p : Int) (ns : List Int) : inV (.int p) (ns.map V.int) = decide (p ∈ ns) := by
  unfold inV
  rw [List.any_map]
  by_cases h : p ∈ ns
  · rw [decide_eq_true h, List.any_eq_true]
    exact ⟨p, h, by simp [eqV]⟩
  · rw [decide_eq_false h, List.any_eq_false]
    intro x hx
    have : x ≠ p := fun e => h (e ▸ hx)
    simp [eqV, this]
theorem inL {p : Int} {ns : List Int} (h : SqL K H a (ns.map V.int)) (q : Q (.bl (decide (p ∈ ns))) H) : rIn K false (.int p) (.ref a) H Q :=
  ⟨a, _, rfl, .inl h, rfl, flat_ints ns, by rw [inV_ints]; exact q⟩
theorem ninL {p : Int} {ns : List Int} (h : SqL K H a (ns.map V.int)) (q : Q (.bl (!decide (p ∈ ns))) H) : rIn K true (.int p) (.ref a) H Q :=
  ⟨a, _, rfl, .inl h, rfl, flat_ints ns, by rw [inV_ints]; exact q⟩
theorem idxL {p : Int} {ns : List Int} (h : SqL K H a (ns.map V.int)) (hp : p ∈ ns) (q : Q (.int (ns.idxOf p : Nat)) H) : rIndex K (.ref a) [.int p] H Q := by
  have hl := List.idxOf_lt_length_of_mem hp
  refine ⟨a, _, _, ns.idxOf p, .int p, rfl, rfl, h, rfl, flat_ints ns, ?_, by simp [eqV], fun m z hm hz => ?_, q⟩
  · rw [List.getElem?_map, List.getElem?_eq_getElem hl, List.getElem_idxOf hl]
    rfl
  · rw [List.getElem?_map] at hz
    have hml : m < ns.length := by omega
    rw [List.getElem?_eq_getElem hml] at hz
    cases hz
    have ne : ns[m] ≠ p := fun e => by
      have := List.not_of_lt_findIdx (p := fun x => x == p) (xs := ns) hm
      simp [e] at this
    simp [eqV, ne]
/-- numbers that are kept -/
theorem kept_ints (n : Nat) (k : Nat → Bool) (f : Nat → Int) : ∃ fr : List Int, kept n k (fun i => V.int (f i)) = fr.map V.int ∧ (∀ x ∈ fr, ∃ i, i < n ∧ k i = true ∧ x = f i) ∧ (fr = [] → ∀ i, i < n → k i = false) := by
  induction n with
  | zero => exact ⟨[], rfl, fun x h => (List.not_mem_nil h).elim, fun _ i h => by omega⟩
  | succ n ih =>
    obtain ⟨fr, h1, h2, h3⟩ := ih
    cases c : k n with
    | true =>
      refine ⟨fr ++ [f n], by rw [kept_yes c, h1, List.map_append]; rfl, fun x h => ?_, fun e => by simp at e⟩
      rcases List.mem_append.mp h with h | h
      · obtain ⟨i, a, b⟩ := h2 x h
        exact ⟨i, by omega, b⟩
      · exact ⟨n, by omega, c, List.mem_singleton.mp h⟩
    | false =>
      refine ⟨fr, by rw [kept_no c, h1], fun x h => ?_, fun e i hi => ?_⟩
      · obtain ⟨i, a, b⟩ := h2 x h
        exact ⟨i, by omega, b⟩
      · by_cases q : i = n
        · rw [q]; exact c
        · exact h3 e i (by omega)
theorem rgV_ints (a b : Int) : rgV a b = ((List.range (b - a).toNat).map fun i => a + ((i : Nat) : Int)).map V.int := by
  unfold rgV
  rw [List.map_map]
  rfl
theorem shp_ints (ns : List Int) : SeqAt.shaped (.list (ns.map PyData.int)) = true := by
  have h1 : ∀ ns : List Int, PyData.canLayAll0 (ns.map PyData.int) = true := fun ns => by
    induction ns with
    | nil => simp [PyData.canLayAll0]
    | cons n ns ih => simp [PyData.canLayAll0, PyData.canLay0, ih]
  have h2 := dep_all (ds := ns.map PyData.int) (n := 0) fun d m => by
      obtain ⟨n, hn, rfl⟩ := List.mem_map.mp m
      simp [PyData.depth]
  show (PyData.canLay0 _ && decide (PyData.depth _ ≤ 64)) = true
  rw [Bool.and_eq_true]
  refine ⟨?_, decide_eq_true ?_⟩
  · simp only [PyData.canLay0]; exact h1 ns
  · simp only [PyData.depth]; omega
theorem eqv_ints : ∀ ns ms : List Int, PyData.eqv (.list (ns.map PyData.int)) (.list (ms.map PyData.int)) = decide (ns = ms) := fun ns ms => by
  simp only [PyData.eqv]
  induction ns generalizing ms with
  | nil => cases ms <;> simp [PyData.eqvAll]
  | cons n ns ih =>
    cases ms with
    | nil => simp [PyData.eqvAll]
    | cons m ms =>
      simp only [List.map_cons, PyData.eqvAll, PyData.eqv, ih]
      by_cases h : n = m
      · subst h; simp
      · simp [h]
theorem eqInts {b : Addr} {ns ms : List Int} (h : SqL K H a (ns.map V.int)) (g : SqL K H b (ms.map V.int)) (q : Q (.bl (decide (ns = ms))) H) : rEqD K (.ref a) (.ref b) H Q :=
  ⟨_, _, .lst h (dp_ints ns), .lst g (dp_ints ms), shp_ints ns, shp_ints ms, by rw [eqv_ints]; exact q⟩
theorem neInts {b : Addr} {ns ms : List Int} (h : SqL K H a (ns.map V.int)) (g : SqL K H b (ms.map V.int)) (q : Q (.bl (!decide (ns = ms))) H) : rNeD K (.ref a) (.ref b) H Q :=
  ⟨_, _, .lst h (dp_ints ns), .lst g (dp_ints ms), shp_ints ns, shp_ints ms, by rw [eqv_ints]; exact q⟩
theorem pickI {ns : List Int} {r : Int} (h0 : 0 ≤ r) (h1 : r < ns.length) : ∃ n, n ∈ ns ∧ atI (ns.map V.int) r = some (.int n) := by
  obtain ⟨v, hv, e⟩ := pick (xs := ns.map V.int) h0 (by rw [List.length_map]; exact h1)
  obtain ⟨n, hn, rfl⟩ := List.mem_map.mp hv
  exact ⟨n, hn, e⟩
theorem cut_to (xs : List V) {i : Int} {j : Nat} (e : i = (j : Int)) (h : j ≤ xs.length) : cutV xs none (some i) = xs.take j := by
  subst e
  unfold cutV
  have e1 : HT.sIx xs.length 0 none = 0 := rfl
  rw [HT.sIx_nat, e1, List.drop_zero, Nat.sub_zero, Nat.min_eq_left h]
theorem slL {lo hi : Option Int} {xs : List V} (h : SqL K H a xs) (q : ∀ p, H p = none → Q (.ref p) (upd H p (.lst (cutV xs lo hi)))) : rSlL K (.ref a) lo hi H Q := ⟨a, xs, rfl, h, q⟩
theorem tyLL {xs : List V} (h : SqL K H a xs) : tyV K "list" (.ref a) H := Or.inl ⟨rfl, _, h⟩
end
end BC
namespace TR
/-! ### trails -/
def Pg (w : Int) (l : List Int) : Prop := ∀ x ∈ l, 0 ≤ x ∧ x < w
def vis (t : List Int) (p : Int) : List Int := if p ∈ t then t.take (t.idxOf p + 1) else t ++ [p]
def trl (row : List Int) : List Int := row.foldl vis []
/-- the lengths of the trails -/
def lens (row : List Int) : List Int := (List.range row.length).map fun i => ((trl (row.take (i + 1))).length : Int)
theorem vis_mem {t : List Int} {p x : Int} (h : x ∈ vis t p) : x ∈ t ∨ x = p := by
  unfold vis at h
  split at h
  · exact .inl (List.mem_of_mem_take h)
  · simpa using h
theorem vis_nodup {t : List Int} {p : Int} (h : t.Nodup) : (vis t p).Nodup := by
  unfold vis
  split
  · exact h.sublist (List.take_sublist _ _)
  · next n =>
    rw [List.nodup_append]
    exact ⟨h, List.nodup_cons.mpr ⟨List.not_mem_nil, List.nodup_nil⟩, fun a ha b hb e => n (by simp at hb; rw [← hb, ← e]; exact ha)⟩
theorem vis_pos (t : List Int) (p : Int) : 1 ≤ (vis t p).length := by
  unfold vis
  split
  · next h =>
    have := List.idxOf_lt_length_of_mem h
    rw [List.length_take]; omega
  · rw [List.length_append, List.length_singleton]; omega
theorem vis_le (t : List Int) (p : Int) : (vis t p).length ≤ t.length + 1 := by
  unfold vis
  split
  · rw [List.length_take]; omega
  · rw [List.length_append, List.length_singleton]; omega
theorem vis_pg {w : Int} {t : List Int} {p : Int} (h : Pg w t) (h0 : 0 ≤ p) (h1 : p < w) : Pg w (vis t p) := fun x hx => by
  rcases vis_mem hx with h2 | rfl
  · exact h x h2
  · exact ⟨h0, h1⟩
theorem trl_snoc {row : List Int} {i : Nat} {p : Int} (h : row[i]? = some p) : trl (row.take (i + 1)) = vis (trl (row.take i)) p := by
  unfold trl
  rw [List.take_add_one, h, List.foldl_append]
  rfl
theorem fold_ok {w : Int} : ∀ {row t : List Int}, Pg w row → Pg w t → t.Nodup → Pg w (row.foldl vis t) ∧ (row.foldl vis t).Nodup
  | [], _, _, h2, h3 => ⟨h2, h3⟩
  | p :: row, t, h1, h2, h3 => fold_ok (row := row) (t := vis t p) (fun x hx => h1 x (List.mem_cons_of_mem _ hx)) (vis_pg h2 (h1 p List.mem_cons_self).1 (h1 p List.mem_cons_self).2) (vis_nodup h3)
theorem Pg.take {w : Int} {l : List Int} (h : Pg w l) (n : Nat) : Pg w (l.take n) := fun x hx => h x (List.mem_of_mem_take hx)
theorem Pg.mono {w v : Int} {l : List Int} (h : Pg w l) (e : w ≤ v) : Pg v l := fun x hx => ⟨(h x hx).1, by have := (h x hx).2; omega⟩
theorem Pg.at {w : Int} {l : List Int} (h : Pg w l) {i : Nat} {p : Int} (e : l[i]? = some p) : 0 ≤ p ∧ p < w := h p (List.mem_of_getElem? e)
theorem pg_nil (w : Int) : Pg w [] := fun _ m => (List.not_mem_nil m).elim
theorem trl_pg {w : Int} {row : List Int} (h : Pg w row) : Pg w (trl row) := (fold_ok h (pg_nil w) List.nodup_nil).1
theorem trl_nodup {w : Int} {row : List Int} (h : Pg w row) : (trl row).Nodup := (fold_ok h (pg_nil w) List.nodup_nil).2
/-- so many different pages at most -/
theorem nodup_len : ∀ (n : Nat) {l : List Int}, l.Nodup → Pg n l → l.length ≤ n
  | 0, [], _, _ => Nat.le_refl _
  | 0, x :: l, _, h => by have := h x List.mem_cons_self; omega
  | n + 1, l, h1, h2 => by
    by_cases m : ((n : Nat) : Int) ∈ l
    · have h3 := nodup_len n (l := l.erase (n : Int)) (h1.erase _) (fun x hx => by
        have a := h2 x (List.mem_of_mem_erase hx)
        have b : x ≠ (n : Int) := fun e => by
          rw [h1.mem_erase_iff] at hx
          exact hx.1 e
        omega)
      have := List.length_erase_of_mem m
      omega
    · have h3 := nodup_len n h1 (fun x hx => by
        have a := h2 x hx
        have b : x ≠ (n : Int) := fun e => m (e ▸ hx)
        omega)
      omega
theorem trl_len {n : Nat} {row : List Int} (h : Pg n row) : (trl row).length ≤ n := nodup_len n (trl_nodup h) (trl_pg h)
theorem lens_len (row : List Int) : (lens row).length = row.length := by unfold lens; rw [List.length_map, List.length_range]
theorem lens_at {row : List Int} {i : Nat} (h : i < row.length) : (lens row)[i]? = some ((trl (row.take (i + 1))).length : Int) := by
  unfold lens
  rw [List.getElem?_map, List.getElem?_range h]
  rfl
end TR

set_option Elab.async false
set_option linter.all false
set_option maxRecDepth 100000
set_option maxHeartbeats 4000000
/-! defs with one keyword-only parameter that has a default -/
namespace BC
open PySem PySem.Spec PyProof.Rows L2 Evl
theorem kwd1 {K : PySem.W.Frag} {x qual : Str} {st : Stmt} {f D : Addr} {ps : List Str} {nm : Str} {v : V} {u : Value} {n : Nat} {oc : Value} {od : Option Addr} {doc pm : Value} {an : Option Addr} {cdv ct : Value} {osl : Array (Option Value)}
    (lk : K.lookup f = some ⟨oc, od, .func (PySem.W.fnOf x qual (defArgs st) (defBody st) (defScope st) .none (.ref D) doc pm an cdv ct), osl⟩) (hcd : PySem.W.codeIn K cdv qual = true) (kp : PySem.W.keepIn K (.ref f) = true)
    (hq : PySem.W.nsIn K D nm = some (some u)) (hr : RelV v u) (hn : n + 1 = ps.length)
    (h : ∀ (D : Addr) (doc pm : Value) (an : Option Addr) (cdv ct : Value) (us ks : List Value), us.length = n → ks.length = 1 →
      KwChain D ([nm].zip ks) (bindArgs (PySem.W.fnOf x qual (defArgs st) (defBody st) (defScope st) .none (.ref D) doc pm an cdv ct) ⟨us, []⟩) (ps.zip (us ++ ks))) :
    ∃ ds, Vals [v] ds ∧ Binds K (PySem.W.fnOf x qual (defArgs st) (defBody st) (defScope st) .none (.ref D) doc pm an cdv ct) ps ds := by
  have F : FunD K x qual (defArgs st) (defBody st) (defScope st) [] [(nm, v)] f (PySem.W.fnOf x qual (defArgs st) (defBody st) (defScope st) .none (.ref D) doc pm an cdv ct) :=
    ⟨⟨oc, od, _, _, doc, pm, an, cdv, ct, osl, rfl, lk, hcd, .inl ⟨rfl, rfl⟩, .inr ⟨D, rfl, fun q hm => by
      obtain rfl : q = (nm, v) := by simpa using hm
      exact ⟨u, hq, hr⟩⟩⟩, kp⟩
  have z := F.binds0 n (by simp) (by simpa using hn) h
  exact z
/-! ### the bag of draws: a list of three numbers -/
def BagAt (H : Hp) (b : Addr) (c : Nat) : Prop := ∃ x0 x1 x2 : Int, H b = some (.lst [.int x0, .int x1, .int x2]) ∧ 0 ≤ x1 ∧ x1 < 10 ^ 65 ∧ 0 ≤ x2 ∧ x2 ≤ c
theorem BagAt.ex {H H' : Hp} {b : Addr} {c : Nat} (h : BagAt H b c) (e : Ex H H') : BagAt H' b c := by
  obtain ⟨x0, x1, x2, hb, r⟩ := h
  exact ⟨x0, x1, x2, e _ _ hb, r⟩
theorem BagAt.mono {H : Hp} {b : Addr} {c d : Nat} (h : BagAt H b c) (e : c ≤ d) : BagAt H b d := by
  obtain ⟨x0, x1, x2, hb, h1, h2, h3, h4⟩ := h
  exact ⟨x0, x1, x2, hb, h1, h2, h3, by omega⟩
theorem BagAt.some {H : Hp} {b : Addr} {c : Nat} (h : BagAt H b c) : ∃ o, H b = Option.some o := by
  obtain ⟨x0, x1, x2, hb, _⟩ := h
  exact ⟨_, hb⟩
theorem BagAt.apart {H : Hp} {b z : Addr} {c : Nat} (h : BagAt H b c) (nz : H z = none) : z ≠ b := fun e => by
  obtain ⟨o, ho⟩ := h.some
  subst e
  rw [ho] at nz
  cases nz
theorem BagAt.off {H : Hp} {b z : Addr} {c : Nat} {o : HO} (h : BagAt H b c) (nz : z ≠ b) : BagAt (upd H z o) b c := by
  obtain ⟨x0, x1, x2, hb, r⟩ := h
  exact ⟨x0, x1, x2, by rw [upd_ne (Ne.symm nz)]; exact hb, r⟩
theorem BagAt.ne {H : Hp} {b z : Addr} {c : Nat} (h : BagAt H b c) (nb : H z = none) : b ≠ z := fun e => h.apart nb e.symm
/-- the greatest number of ways that is drawn from -/
def BIG : Int := 2 ^ 2000
theorem big_of {m : Int} (h : m ≤ 100000) : m ≤ BIG := Int.le_trans h (by decide +kernel)
theorem big_lt {m : Int} (h : 0 < m) (h2 : m ≤ BIG) : m.natAbs < 2 ^ 2001 := by
  have a : m.natAbs ≤ BIG.natAbs := by omega
  exact Nat.lt_of_le_of_lt a (by decide +kernel)
def spDraw : Sp := fun vs H Q _ => ∃ (b : Addr) (m : Int) (c : Nat), vs = [.ref b, .int m] ∧ 0 < m ∧ m ≤ BIG ∧ BagAt H b c ∧ c ≤ 1000000 ∧ ∀ r H', 0 ≤ r → r < m → Fx b H H' → BagAt H' b (c + 1) → Q (.int r) H'
/-! ### lists of lists of numbers, shown -/
def dLL (ls : List (List Int)) : PyData := .list (ls.map fun l => .list (l.map PyData.int))
theorem tm_ints {l : List Int} (h : ∀ x ∈ l, x.natAbs < 10 ^ 12) : Tm (.list (l.map PyData.int)) := .list fun d m => by
  obtain ⟨x, hx, rfl⟩ := List.mem_map.mp m
  exact .int (h x hx)
theorem wt_ints {l : List Int} (h : ∀ x ∈ l, x.natAbs < 10 ^ 12) : (PyData.list (l.map PyData.int)).weight ≤ 41 * l.length := by
  simp only [PyData.weight]
  have := wt_all (ds := l.map PyData.int) (n := 40) fun d m => by
      obtain ⟨n, hn, rfl⟩ := List.mem_map.mp m
      exact wt_int (Nat.lt_of_lt_of_le (h n hn) (by decide +kernel))
  rw [List.length_map] at this
  exact this
theorem dp_ll {K : PySem.W.Frag} {H : Hp} {ps : List Addr} : ∀ {ls : List (List Int)}, ps.length = ls.length → (∀ (i : Nat) (p : Addr) (l : List Int), ps[i]? = some p → ls[i]? = some l → SqL K H p (l.map V.int)) → DpAll K H (ps.map V.ref) (ls.map fun l => PyData.list (l.map PyData.int)) := fun {ls} => by
  induction ps generalizing ls with
  | nil =>
    intro h _
    cases ls with
    | nil => exact .nil
    | cons l ls => simp at h
  | cons p ps ih =>
    intro h g
    cases ls with
    | nil => simp at h
    | cons l ls => exact .cons (.lst (g 0 p l rfl rfl) (dp_ints l)) (ih (by simpa using h) fun i q m a b => g (i + 1) q m (by rw [List.getElem?_cons_succ]; exact a) (by rw [List.getElem?_cons_succ]; exact b))
theorem reprLL {K : PySem.W.Frag} {H : Hp} {Q : VK} {a : Addr} {ls : List (List Int)} {n : Nat} (h : Dp K H (.ref a) (dLL ls)) (hv : ∀ l ∈ ls, ∀ x ∈ l, x.natAbs < 10 ^ 12) (hl : ∀ l ∈ ls, l.length ≤ n) (hz : (41 * n + 1) * ls.length ≤ 2 ^ 20) (q : Q (.str (dLL ls).shown) H) : rRepr K [.ref a] H Q := by
  refine reprX h (.list fun d m => ?_) ?_ ?_ q
  · obtain ⟨l, hm, rfl⟩ := List.mem_map.mp m
    exact tm_ints (hv l hm)
  · unfold dLL
    simp only [PyData.depth]
    have := dep_all (ds := ls.map fun l => PyData.list (l.map PyData.int)) (n := 1) fun d m => by
      obtain ⟨l, hm, rfl⟩ := List.mem_map.mp m
      simp only [PyData.depth]
      have := dep_all (ds := l.map PyData.int) (n := 0) fun d m => by
        obtain ⟨x, hx, rfl⟩ := List.mem_map.mp m
        simp [PyData.depth]
      omega
    omega
  · unfold dLL
    simp only [PyData.weight]
    have := wt_all (ds := ls.map fun l => PyData.list (l.map PyData.int)) (n := 41 * n) fun d m => by
      obtain ⟨l, hm, rfl⟩ := List.mem_map.mp m
      exact Nat.le_trans (wt_ints (hv l hm)) (Nat.mul_le_mul_left _ (hl l hm))
    rw [List.length_map] at this
    omega
theorem k_lenSet {X : Cx} {K : PySem.W.Frag} {a : Expr} {ta : TE} {p p2 q pos : Pos} (hK : X.K = K) (hg : Gl X "len") (hm : X.mg "len" = none) (hg2 : Gl X "set") (hm2 : X.mg "set" = none) (ha : PE X a ta) (hc : X.calm = true := by rfl)
    (na : starEach [a] X.env = (false, eval a X.env) :: starEach [] X.env := by rfl) : PE X (.Call (.Name "len" p) [.Call (.Name "set" p2) [a] [] q] [] pos) (RZ.tLenSetI K ta) := by subst hK; exact RZ.pe_lenSetI hg hm hg2 hm2 ha hc na
theorem x_lenSet {K : PySem.W.Frag} {ta : TE} {σ : L2.St} {H : Hp} {Q : VK} : RZ.tLenSetI K ta σ H Q = ta σ H fun x H1 => ∃ (l : Addr) (ns : List Int), x = .ref l ∧ SqL K H1 l (ns.map V.int) ∧ ns.Nodup ∧ ns.length ≤ 4000 ∧ Q (.int (ns.length : Nat)) H1 := rfl
end BC

set_option Elab.async false
set_option linter.all false
set_option maxRecDepth 100000
set_option maxHeartbeats 4000000
/-! dicts: readings, loops over keys, keys that are texts of lists of digits -/
namespace BC
open PySem PySem.Spec PyProof.Rows L2 Evl
section
variable {K : PySem.W.Frag} {σ : L2.St} {H : Hp} {Q : VK} {QT : Bool → Hp → Prop} {td ty tv tx : TE} {D : Ends} {g : TG} {tb : TS} {c : TE}
theorem x_dnewK : tDNewK σ H Q = ∀ p, H p = none → Q (.ref p) (upd H p (.dK [])) := rfl
theorem x_dnewT : tDNewT σ H Q = ∀ p, H p = none → Q (.ref p) (upd H p (.dT [])) := rfl
theorem x_dget : tDGet td ty σ H Q = td σ H (fun x H1 => ty σ H1 fun y H2 => ∃ a v, x = .ref a ∧ DGet H2 a y (some v) ∧ Q v H2) := rfl
theorem x_dget1 : tDGet1 td ty σ H Q = td σ H (fun x H1 => ∃ a, x = .ref a ∧ IsD H1 a ∧ ty σ H1 fun y H2 => ∃ o, DGet H2 a y o ∧ Q (o.getD .non) H2) := rfl
theorem x_dget2 : tDGet2 td ty tx σ H Q = td σ H (fun x H1 => ∃ a, x = .ref a ∧ IsD H1 a ∧ ty σ H1 fun y H2 => tx σ H2 fun z H3 => ∃ o, DGet H3 a y o ∧ Q (o.getD z) H3) := rfl
theorem x_din : tDIn ty td σ H Q = ty σ H (fun y H1 => td σ H1 fun x H2 => ∃ a o, x = .ref a ∧ DGet H2 a y o ∧ Q (.bl o.isSome) H2) := rfl
theorem x_dnotin : tDNotIn ty td σ H Q = ty σ H (fun y H1 => td σ H1 fun x H2 => ∃ a o, x = .ref a ∧ DGet H2 a y o ∧ Q (.bl (!o.isSome)) H2) := rfl
theorem x_dput : sDPut td ty tv D σ H = tv σ H (fun v H1 => td σ H1 fun x H2 => ty σ H2 fun y H3 => ∃ a H4, x = .ref a ∧ DPut H3 a y v H4 ∧ D.nx σ H4) := rfl
theorem x_ikeys {R : It → Hp → Prop} : iKeys td σ H R = td σ H (fun x H1 => ∃ d o, x = .ref d ∧ ((∃ kvs, H1 d = some (.frz o (.dK kvs)) ∧ R (Itk d o kvs) H1) ∨ ∃ kvs, H1 d = some (.frz o (.dT kvs)) ∧ R (Itkt d o kvs) H1)) := rfl
/-- the keys of a locked dict -/
theorem lg_keys {d : Addr} {o : Obj} {kvs : List (Key × V)} (Pv : Nat → L2.St → Hp → Prop) (h0 : Pv 0 σ H) (hl : ∀ i σ H, i ≤ kvs.length → Pv i σ H → H d = some (.frz o (.dK kvs)))
    (hs : ∀ i k v σ H, kvs[i]? = some (k, v) → Pv i σ H → g (kV k) σ H fun σ2 H2 => tb { D with nx := Pv (i + 1), ct := Pv (i + 1), bk := D.nx } σ2 H2) (hd : ∀ σ H, Pv kvs.length σ H → D.nx σ H) : LoopG (Itk d o kvs) g tb D σ H := by
  refine ⟨fun i m σ H => m = kvs.length - i ∧ i ≤ kvs.length ∧ Pv i σ H, ⟨kvs.length, by simp, Nat.zero_le _, h0⟩, ?_⟩
  rintro i m σ H ⟨rfl, hi, p⟩
  have q := hl i σ H hi p
  by_cases hlt : i < kvs.length
  · refine .inr ⟨⟨q, hlt⟩, Pv (i + 1), fun σ' H' p' => ⟨kvs.length - (i + 1), by omega, rfl, hlt, p'⟩, fun x H' y => ?_⟩
    obtain ⟨rfl, k, v, e, rfl⟩ := y
    exact hs i k v σ _ e p
  · have e : i = kvs.length := by omega
    subst e
    exact .inl ⟨⟨q, Nat.le_refl _⟩, hd σ H p⟩
end
theorem frz_ex {H H' : Hp} {d : Addr} {u x : HO} (h : H d = some u) (e : Ex (upd H d x) H') : Ex H (upd H' d u) := fun a o ho => by
  by_cases q : a = d
  · subst q
    rw [upd_same]
    rw [h] at ho
    exact ho
  · rw [upd_ne q]
    exact e a o (by rw [upd_ne q]; exact ho)
theorem ex_frz {H H' : Hp} {d a : Addr} {o : HO} {x : HO} (q : a ≠ d) (ho : H a = some o) (e : Ex (upd H d x) H') : H' a = some o := e a o (by rw [upd_ne q]; exact ho)
/-! ### lists of digits, shown -/
def Dg (t : List Int) : Prop := ∀ n ∈ t, 0 ≤ n ∧ n < 10
def digL (cs : List Nat) : List Int := (cs.filter fun c => decide (48 ≤ c) && decide (c < 58)).map fun c : Nat => (c : Int) - 48
theorem digL_append (a b : List Nat) : digL (a ++ b) = digL a ++ digL b := by
  unfold digL
  rw [List.filter_append, List.map_append]
theorem digL_one : ∀ k : Fin 10, digL (Str.ofString (toString ((k.val : Nat) : Int))).cps.toList = [((k.val : Nat) : Int)] := by decide +kernel
theorem digL_int {n : Int} (h0 : 0 ≤ n) (h1 : n < 10) : digL (Str.ofString (toString n)).cps.toList = [n] := by
  have h := digL_one ⟨n.toNat, by omega⟩
  rw [show ((n.toNat : Nat) : Int) = n by omega] at h
  exact h
theorem digL_join : ∀ ns : List Int, Dg ns → digL (Str.join ", " (ns.map fun n => ((toString n : String) : Str))).cps.toList = ns
  | [], _ => by decide +kernel
  | [n], h => by
    obtain ⟨h0, h1⟩ := h n List.mem_cons_self
    exact digL_int h0 h1
  | n :: m :: ns, h => by
    obtain ⟨h0, h1⟩ := h n List.mem_cons_self
    have ih := digL_join (m :: ns) fun x hx => h x (List.mem_cons_of_mem _ hx)
    show digL ((((toString n : String) : Str) ++ ", " ++ Str.join ", " ((m :: ns).map fun n => ((toString n : String) : Str))).cps.toList) = _
    rw [cps_toList_append, cps_toList_append, digL_append, digL_append, ih, digL_int h0 h1, signs_sep]
    rfl
theorem digL_shown {ns : List Int} (h : Dg ns) : digL (shInts ns).cps.toList = ns := by
  unfold shInts
  rw [PyData.shown_list, PyData.shownAll_ints, cps_toList_append, cps_toList_append, digL_append, digL_append, digL_join ns h, signs_lbrack, signs_rbrack]
  show [] ++ ns ++ [] = ns
  simp
theorem shInts_inj {a b : List Int} (ha : Dg a) (hb : Dg b) (e : shInts a = shInts b) : a = b := by
  rw [← digL_shown ha, ← digL_shown hb, e]
/-! ### dicts by such texts -/
section
variable {α : Type} {f : α → V}
def kx (t : List Int) : Key := Sum.inr (shInts t)
theorem kx_inj {a b : List Int} (ha : Dg a) (hb : Dg b) : kx a = kx b ↔ a = b := ⟨fun e => shInts_inj ha hb (Sum.inr.inj e), fun e => by rw [e]⟩
def ren (f : α → V) (L : List (List Int × α)) : List (Key × V) := L.map fun p => (kx p.1, f p.2)
def getA (L : List (List Int × α)) (t : List Int) : Option α := (L.find? fun p => decide (p.1 = t)).map (·.2)
def putA (L : List (List Int × α)) (t : List Int) (a : α) : List (List Int × α) := if (L.any fun p => decide (p.1 = t)) = true then L.map (fun p => if p.1 = t then (p.1, a) else p) else L ++ [(t, a)]
theorem ren_val (t : List Int) (ht : Dg t) : ∀ L : List (List Int × α), (∀ p ∈ L, Dg p.1) → valV (ren f L) (kx t) = (getA L t).map f
  | [], _ => rfl
  | p :: L, h => by
    have ih := ren_val t ht L fun q hq => h q (List.mem_cons_of_mem _ hq)
    have hp := h p List.mem_cons_self
    show valV ((kx p.1, f p.2) :: ren f L) (kx t) = _
    by_cases e : p.1 = t
    · rw [valV_pos (by show kx p.1 = kx t; rw [e])]
      simp [getA, e]
    · rw [valV_neg (by show ¬ kx p.1 = kx t; rw [kx_inj hp ht]; exact e), ih]
      simp [getA, e]
theorem ren_any (t : List Int) (ht : Dg t) : ∀ L : List (List Int × α), (∀ p ∈ L, Dg p.1) → ((ren f L).any fun kv => decide (kv.1 = kx t)) = L.any fun p => decide (p.1 = t)
  | [], _ => rfl
  | p :: L, h => by
    have ih := ren_any t ht L fun q hq => h q (List.mem_cons_of_mem _ hq)
    have hp := h p List.mem_cons_self
    show (decide (kx p.1 = kx t) || (ren f L).any fun kv => decide (kv.1 = kx t)) = _
    rw [ih, List.any_cons]
    congr 1
    exact decide_eq_decide.mpr (kx_inj hp ht)
theorem ren_put (t : List Int) (ht : Dg t) (a : α) (L : List (List Int × α)) (h : ∀ p ∈ L, Dg p.1) : putK (ren f L) (kx t) (f a) = ren f (putA L t a) := by
  unfold putK putA
  rw [ren_any t ht L h]
  by_cases c : (L.any fun p => decide (p.1 = t)) = true
  · rw [if_pos c, if_pos c]
    unfold ren
    rw [List.map_map, List.map_map]
    refine List.map_congr_left fun p hp => ?_
    show (if kx p.1 = kx t then (kx p.1, f a) else (kx p.1, f p.2)) = _
    by_cases e : p.1 = t
    · rw [if_pos (by rw [e])]
      show _ = (kx (if p.1 = t then (p.1, a) else p).1, f (if p.1 = t then (p.1, a) else p).2)
      rw [if_pos e]
    · rw [if_neg (by rw [kx_inj (h p hp) ht]; exact e)]
      show _ = (kx (if p.1 = t then (p.1, a) else p).1, f (if p.1 = t then (p.1, a) else p).2)
      rw [if_neg e]
  · rw [if_neg c, if_neg c]
    unfold ren
    rw [List.map_append]
    rfl
theorem putA_key {L : List (List Int × α)} {t : List Int} {a : α} {p : List Int × α} (h : p ∈ putA L t a) : p.1 = t ∨ ∃ q ∈ L, q.1 = p.1 := by
  unfold putA at h
  split at h
  · obtain ⟨q, hq, rfl⟩ := List.mem_map.mp h
    refine .inr ⟨q, hq, ?_⟩
    split <;> rfl
  · rcases List.mem_append.mp h with h | h
    · exact .inr ⟨p, h, rfl⟩
    · rw [List.mem_singleton.mp h]
      exact .inl rfl
theorem putA_len (L : List (List Int × α)) (t : List Int) (a : α) : (putA L t a).length ≤ L.length + 1 := by
  unfold putA
  split
  · rw [List.length_map]; omega
  · rw [List.length_append, List.length_singleton]; omega
theorem ren_len (L : List (List Int × α)) : (ren f L).length = L.length := by unfold ren; rw [List.length_map]
theorem ren_at {L : List (List Int × α)} {i : Nat} {k : Key} {v : V} (h : (ren f L)[i]? = some (k, v)) : ∃ t a, L[i]? = some (t, a) ∧ k = kx t ∧ v = f a := by
  unfold ren at h
  rw [List.getElem?_map] at h
  cases e : L[i]? with
  | none => rw [e] at h; cases h
  | some p => rw [e] at h; cases h; exact ⟨p.1, p.2, rfl, rfl, rfl⟩
end
end BC
namespace BC
open PySem PySem.Spec PyProof.Rows L2 Evl
section
variable {α : Type} {f : α → V}
theorem putA_nodup {L : List (List Int × α)} {t : List Int} {a : α} (h : (L.map (·.1)).Nodup) : ((putA L t a).map (·.1)).Nodup := by
  unfold putA
  split
  · rw [List.map_map]
    have e : ((fun p : List Int × α => p.1) ∘ fun p : List Int × α => if p.1 = t then (p.1, a) else p) = fun p => p.1 := funext fun p => by
      show (if p.1 = t then (p.1, a) else p).1 = p.1
      split <;> rfl
    rw [e]
    exact h
  · next c =>
    rw [List.map_append, List.nodup_append]
    refine ⟨h, by simp, fun x hx y hy e => ?_⟩
    obtain ⟨p, hp, rfl⟩ := List.mem_map.mp hx
    have hy' : y = t := by simpa using hy
    refine c (List.any_eq_true.mpr ⟨p, hp, decide_eq_true ?_⟩)
    rw [e, hy']
theorem getA_at : ∀ {L : List (List Int × α)} {i : Nat} {t : List Int} {a : α}, (L.map (·.1)).Nodup → L[i]? = some (t, a) → getA L t = some a
  | [], _, _, _, _, h => by simp at h
  | p :: L, 0, t, a, _, h => by
    have : p = (t, a) := by simpa using h
    subst this
    simp [getA]
  | p :: L, i + 1, t, a, nd, h => by
    rw [List.map_cons, List.nodup_cons] at nd
    have h' : L[i]? = some (t, a) := by simpa using h
    have ih := getA_at nd.2 h'
    have ne : p.1 ≠ t := fun e => nd.1 (List.mem_map.mpr ⟨(t, a), List.mem_of_getElem? h', e.symm⟩)
    unfold getA at ih ⊢
    rw [List.find?_cons, decide_eq_false ne]
    exact ih
end
/-- what stands at a text's key, counted -/
theorem ren_get {L : List (List Int × Int)} {t : List Int} (ht : Dg t) (h : ∀ p ∈ L, Dg p.1) : (valV (ren V.int L) (kx t)).getD (.int 0) = .int ((getA L t).getD 0) := by
  rw [ren_val t ht L h]
  cases getA L t <;> rfl
theorem ints_at {ns : List Int} {i : Nat} {v : V} (h : (ns.map V.int)[i]? = some v) : ∃ n, ns[i]? = some n ∧ v = .int n := by
  rw [List.getElem?_map] at h
  cases e : ns[i]? with
  | none => rw [e] at h; cases h
  | some n => rw [e] at h; cases h; exact ⟨n, rfl, rfl⟩
theorem refs_at {ps : List Addr} {i : Nat} {v : V} (h : (ps.map V.ref)[i]? = some v) : ∃ q, ps[i]? = some q ∧ v = .ref q := by
  rw [List.getElem?_map] at h
  cases e : ps[i]? with
  | none => rw [e] at h; cases h
  | some n => rw [e] at h; cases h; exact ⟨n, rfl, rfl⟩
theorem tyS {K : PySem.W.Frag} {H : Hp} {x : Str} : tyV K "str" (.str x) H := rfl
end BC

set_option Elab.async false
set_option linter.all false
set_option maxRecDepth 100000
set_option maxHeartbeats 4000000
/-! sorted(set(xs)) of a list of numbers -/
namespace BC
open PySem PySem.Spec PyProof.Rows L2 Evl RZ
/-- the set that set() starts with -/
abbrev set0 (w : World) : Obj := { cls := .type "set", dict := none, data := .set #[] 0 (.fresh 0 0 (!w.params.followText "set-order")) }
abbrev with0 (w : World) (s : Shared) : Shared := { s with heap := s.heap.push (set0 w) }
section
variable {P : Program} {w : World} {A : Around} {E : Value → Shared → Prop} {s : Shared}
set_option maxHeartbeats 3200000 in
theorem set_of_list {l : Addr} {its : Array Value} (ns : List Int) {Q : Value → Shared → Prop} (hh : A.handled = none) (hl : s.heap.IsList l its) (hit : IntsAre its.toList ns) (hb : ns.length + 1 < scanBound)
    (fin : ∀ (h' : Heap) (tk c : Nat), SetR w h' s.heap.objs.size (fun j => decide (j ∈ ns)) c → c ≤ ns.length → (∀ b o, s.heap.get? b = some o → h'.get? b = some o) → Q (.ref s.heap.objs.size) { s with heap := h', toks := tk }) :
    wpAny (model P w) A (call (.type "set") [.ref l]) Q E s := by
  have many : its.size = ns.length := by rw [← IntsAre.length hit, Array.length_toList]
  obtain ⟨c, tl, hmro⟩ := F.called_set.mro
  have m1 := F.called_set.made
  have m2 := F.called_set.sub
  refine wpAny_call (codeAny_of_tree (wpAny_pure ⟨Code.quiet_builtin _ (by decide +kernel), codeAny_builtin F.entry_type_call ?_⟩))
  rw [Around.under_plain (weight_type_call_type "set" [.ref l] []) rfl]
  have m3 := F.called_set.notType
  have m4 := F.called_set.canCreate
  have m5 := F.typeCall_set_1 (.ref l)
  repeat (any_goals (first | assumption | wp_step))
  refine codeAny_mono (code_set_led1 (.ref l) (E := E) (Q₁ := fun obj s₁ => obj = .ref s.heap.objs.size ∧ s₁ = with0 w s) ⟨rfl, rfl⟩) fun r s₁ hr => ?_
  match r, hr with
  | .error e, hr => exact hr
  | .ok .next, hr => exact hr.elim
  | .ok .brk, hr => exact hr.elim
  | .ok .cont, hr => exact hr.elim
  | .ok (.ret obj), hr =>
    obtain ⟨rfl, rfl⟩ := hr
    have at0 : (s.heap.push (set0 w)).get? s.heap.objs.size = some (set0 w) := Heap.get?_push_size _ rfl
    have ty0 : Shared.TypeIs (with0 w s) (.ref s.heap.objs.size) "set" := ⟨_, at0, rfl⟩
    have i1 := F.called_set.init.lookup
    have i2 := F.called_set.init.bind (.ref s.heap.objs.size)
    repeat (any_goals (first | assumption | wp_step))
    refine codeAny_mono (codeAny_call_builtin (R := wants (fun r s₂ => r = .none ∧ ∃ h' tk c, s₂ = { s with heap := h', toks := tk } ∧ SetR w h' s.heap.objs.size (fun j => decide (j ∈ ns)) c ∧ c ≤ ns.length ∧ (∀ b o, s.heap.get? b = some o → h'.get? b = some o)) E)
      F.called_set.init.plain F.entry_set_init (check_set_init_1 ty0 ?_)) fun r₂ s₂ hr₂ => ?_
    · obtain ⟨⟨oc, od, dt, osl⟩, old, e1, nl, e2⟩ := hl
      obtain rfl : oc = .type "list" := e1
      obtain rfl : dt = .seq its nl := e2
      have pushed := Heap.get?_push_of_some (set0 w) old
      have isl : (s.heap.push (set0 w)).IsList l its := ⟨_, pushed, rfl, nl, rfl⟩
      have k1 := F.sub_list_set
      have k2 := F.sub_list_frozenset
      have k3 : (Value.type "list" == Value.type "dict") = false := by decide
      have hltl : l < s.heap.objs.size := Heap.lt_size old
      unfold Builtin.«set.__init__» noKeywords Builtin.Frozenset.updateFrom
      generalize hPI : pyIter = PI
      wp_walk
      subst hPI
      refine wpAny_pyIter_list isl (wpAny_bind (wpAny_runValue ?_))
      have calm3 : A.in1.in1.in1.handled = none := by simp [hh]
      have psz : (s.heap.push (set0 w)).objs.size = s.heap.objs.size + 1 := Heap.size_push ..
      have apart : l ≠ (s.heap.push (set0 w)).objs.size := fun z => Nat.lt_irrefl l (by rw [psz] at z; exact Nat.lt_of_lt_of_le hltl (by rw [z]; exact Nat.le_succ _))
      have away : s.heap.objs.size ∉ [(s.heap.push (set0 w)).objs.size, l] := by
        rw [psz]
        intro z
        simp only [List.mem_cons, List.mem_nil_iff, or_false] at z
        rcases z with z | z
        · exact absurd z (Nat.ne_of_lt (Nat.lt_succ_self _))
        · exact absurd z (Nat.ne_of_gt hltl)
      have items : ∀ (i : Nat) (v : Value), its[i]? = some v → ∃ k t, ns[i]? = some k ∧ v = .int k t := fun i v hv => by
        have hi : i < ns.length := by rw [← many]; exact (Array.getElem?_eq_some_iff.mp hv).1
        obtain ⟨t, e⟩ := IntsAre.int_at hit i v (by rw [Array.getElem?_toList]; exact hv)
        refine ⟨ns[i], t, List.getElem?_eq_getElem hi, ?_⟩
        rw [e, List.getD_eq_getElem?_getD, List.getElem?_eq_getElem hi]
        rfl
      refine set_update_ints ((Walks.list calm3 _ l apart its).toS) s.heap.objs.size away ns many hb items its.size 0 _ (by omega) (Nat.zero_le _) ⟨⟨_, Heap.get?_push_size _ rfl, rfl, rfl⟩, (isl.push _)⟩ ⟨0, Nat.le_refl 0, ?_⟩ fun s' c' mv hc' hS' => ?_
      · exact setR_new_at (Heap.get?_push_of_some _ at0)
      · obtain ⟨h', g2, d', tk', os'⟩ := s'
        obtain rfl : g2 = s.gens := mv.gens
        obtain rfl : d' = s.drawn := mv.drawn
        obtain rfl : os' = s.os := mv.os
        refine wpAny_pure (wpAny_pure ⟨rfl, h', tk', c', rfl, hS', by rw [many] at hc'; exact hc', fun b o e => ?_⟩)
        have lt := Heap.lt_size e
        refine mv.heap b o ?_ (Heap.get?_push_of_some _ (Heap.get?_push_of_some _ e))
        intro z
        rw [psz] at z
        simp only [List.mem_cons, List.mem_nil_iff, or_false] at z
        rcases z with z | z
        · exact absurd z (Nat.ne_of_lt lt)
        · exact absurd z (Nat.ne_of_lt (Nat.lt_succ_of_lt lt))
    · match r₂, hr₂ with
      | .error e, hr₂ => exact hr₂
      | .ok .next, hr₂ => exact hr₂.elim
      | .ok .brk, hr₂ => exact hr₂.elim
      | .ok .cont, hr₂ => exact hr₂.elim
      | .ok (.ret r), hr₂ =>
        obtain ⟨rfl, h', tk, c', rfl, q1, q2, q3⟩ := hr₂
        repeat (any_goals (first | assumption | wp_step))
        exact fin _ _ _ q1 q2 q3
end
section
variable {X : Cx} {K : PySem.W.Frag} {a : Expr} {ta : TE} {p p2 q pos : Pos}
/-- sorted(set(xs)): the different numbers in order -/
def tSortSet (K : PySem.W.Frag) (ta : TE) : TE := fun σ H Q => ta σ H fun x H1 => ∃ (l : Addr) (ns : List Int), x = .ref l ∧ SqL K H1 l (ns.map V.int) ∧ ns.length < 64 ∧
  ∀ (ms : List Int) r, ms.Pairwise (· < ·) → (∀ k : Int, k ∈ ms ↔ k ∈ ns) → H1 r = none → Q (.ref r) (upd H1 r (.lst (ms.map V.int)))
theorem k_sortSet (hK : X.K = K) (hg : Gl X "sorted") (hm : X.mg "sorted" = none) (hg2 : Gl X "set") (hm2 : X.mg "set" = none) (ha : PE X a ta) (hc : X.calm = true := by rfl)
    (na : starEach [a] X.env = (false, eval a X.env) :: starEach [] X.env := by rfl) : PE X (.Call (.Name "sorted" p) [.Call (.Name "set" p2) [a] [] q] [] pos) (tSortSet K ta) := by
  subst hK
  refine ⟨fun pins s σ H Q I h => ?_⟩
  refine Call_ (ld_blt I hg hm (show bootBuiltins ("sorted" : Str) = some (.builtin "sorted") by decide +kernel) ?_)
  refine callWith_builtin1 (args_cons ?_ rfl) rfl rfl
  refine Call_ (ld_blt I hg2 hm2 boot_set ?_)
  refine callWith_type1 (args_cons (thn (ha.run pins s σ H _ I h) fun v s1 ⟨x, H1, I1, r1, q1⟩ => args_nil ?_) na) na rfl
  obtain ⟨l, ns, rfl, hq, hl, q1⟩ := q1
  cases r1
  obtain ⟨its, r, pl, hz⟩ := I1.list hq
  refine set_of_list ns (I1.ok.hd hc) pl.isList (by simpa using intsAre_vals r) (by unfold scanBound; omega) fun h' tk c hS hcl hk => ?_
  refine args_nil ?_
  have I2 : Inv X pins σ H1 { s1 with heap := h', toks := tk } := I1.kept hk
  refine sorted_set hS (I2.ok.hd hc) (by omega) fun s' p out c2 ms k g o hp hg hi hs hm hlen => ?_
  have few : (ms.map V.int).length ≤ sizeLine := by rw [List.length_map, hlen, sizeLine_eq]; omega
  have hn : H1 p = none := I2.hok.fresh hp
  have J : Inv X pins σ (upd H1 p (.lst (ms.map V.int))) { ({ s1 with heap := h', toks := tk } : Shared) with heap := s'.heap, gens := s'.gens, drawn := s'.drawn, toks := s'.toks } :=
    I2.call (ch := []) (Un.laid k hp hn) (I2.hok.laid k hp ⟨few, out.toList, c2, vals_of_ints hi, hg⟩) (by rw [g]; exact I2.bare) (fun _ z => nomatch z)
  have e : s' = { ({ s1 with heap := h', toks := tk } : Shared) with heap := s'.heap, gens := s'.gens, drawn := s'.drawn, toks := s'.toks } := by
    cases s'
    cases o
    rfl
  rw [e]
  exact ⟨.ref p, _, J, rfl, q1 ms p hs (fun k => by rw [hm k, decide_eq_true_eq]) hn⟩
theorem x_sortSet {σ : L2.St} {H : Hp} {Q : VK} : tSortSet K ta σ H Q = ta σ H fun x H1 => ∃ (l : Addr) (ns : List Int), x = .ref l ∧ SqL K H1 l (ns.map V.int) ∧ ns.length < 64 ∧
  ∀ (ms : List Int) r, ms.Pairwise (· < ·) → (∀ k : Int, k ∈ ms ↔ k ∈ ns) → H1 r = none → Q (.ref r) (upd H1 r (.lst (ms.map V.int))) := rfl
end
/-- two ascending lists of the same numbers are the same -/
theorem asc_same : ∀ {a b : List Int}, a.Pairwise (· < ·) → b.Pairwise (· < ·) → (∀ k : Int, k ∈ a ↔ k ∈ b) → a = b
  | [], [], _, _, _ => rfl
  | [], y :: b, _, _, h => absurd ((h y).mpr List.mem_cons_self) List.not_mem_nil
  | x :: a, [], _, _, h => absurd ((h x).mp List.mem_cons_self) List.not_mem_nil
  | x :: a, y :: b, ha, hb, h => by
    rw [List.pairwise_cons] at ha hb
    have xy : x = y := by
      have h1 := (h x).mp List.mem_cons_self
      have h2 := (h y).mpr List.mem_cons_self
      rcases List.mem_cons.mp h1 with e | e
      · exact e
      · rcases List.mem_cons.mp h2 with e2 | e2
        · exact e2.symm
        · have := ha.1 y e2
          have := hb.1 x e
          omega
    subst xy
    rw [asc_same ha.2 hb.2 fun k => ⟨fun m => by
      rcases List.mem_cons.mp ((h k).mp (List.mem_cons_of_mem _ m)) with e | e
      · subst e; have := ha.1 k m; omega
      · exact e, fun m => by
      rcases List.mem_cons.mp ((h k).mpr (List.mem_cons_of_mem _ m)) with e | e
      · subst e; have := hb.1 k m; omega
      · exact e⟩]
end BC

set_option Elab.async false
set_option linter.all false
set_option maxRecDepth 100000
set_option maxHeartbeats 4000000
/-! sites: lists of lists of natural numbers, and how they lie in the heap -/
namespace BC
open PySem PySem.Spec PyProof.Rows L2 Evl
/-! ### xs + ys of lists of any origin -/
section
variable {prog : Program} {w : World} {A : Around} {E : Value → Shared → Prop} {s : Shared}
theorem add_plain {l b : Addr} {its its2 : Array Value} {Q : Value → Shared → Prop} (x : PlainL s.heap l its) (y : PlainL s.heap b its2) (fits : its.size + its2.size ≤ sizeLine)
    (q : Q (.ref s.heap.objs.size) { s with heap := s.heap.push { cls := .type "list", data := .seq (its ++ its2) } }) : wpAny (model prog w) A (binaryOp .Add (.ref l) (.ref b)) Q E s := by
  obtain ⟨⟨c1, d1, k1, z1⟩, n1, g1, e1, e2, e3⟩ := x
  obtain ⟨⟨c2, d2, k2, z2⟩, n2, g2, e4, e5, e6⟩ := y
  obtain rfl : c1 = .type "list" := e1
  obtain rfl : c2 = .type "list" := e4
  obtain rfl : k1 = .seq its n1 := e3
  obtain rfl : k2 = .seq its2 n2 := e6
  exact concat_meets ⟨_, g1, rfl⟩ ⟨_, g2, rfl⟩ noFill_list_add seq_list_add F.slot_list_add F.entry_list_add (F.args_list_add_2 _ _) (list_addW l b its its2 n1 n2 d1 d2 z1 z2 fits) ⟨g1, g2, q⟩
end
def rCatS (K : PySem.W.Frag) : R2 := fun x y H Q => ∃ l b xs zs, x = .ref l ∧ y = .ref b ∧ SqL K H l xs ∧ SqL K H b zs ∧ xs.length + zs.length ≤ sizeLine ∧ ∀ p, H p = none → Q (.ref p) (upd H p (.lst (xs ++ zs)))
theorem k_catS {X : Cx} {K : PySem.W.Frag} (hK : X.K = K) : OpR X (binaryOp .Add) (rCatS K) := by
  subst hK
  intro pins s σ H x y v u Q I rx ry h
  obtain ⟨l, b, xs, zs, rfl, rfl, hH, hB, hz, q⟩ := h
  cases rx
  cases ry
  obtain ⟨its, r, p1, _⟩ := I.list hH
  obtain ⟨its2, r2, p2, _⟩ := I.list hB
  have l1 := r.length
  have l2 := r2.length
  refine add_plain p1 p2 (by rw [List.size_toArray, List.size_toArray]; omega) ?_
  have ea : its.toArray ++ its2.toArray = (its ++ its2).toArray := by simp
  rw [ea]
  exact ⟨.ref _, _, I.lnew (t' := s.toks) (r.append r2) (by rw [List.length_append]; omega), rfl, q _ I.fresh⟩
theorem catS {K : PySem.W.Frag} {H : Hp} {Q : VK} {p b : Addr} {xs ys : List V} (h : SqL K H p xs) (hb : SqL K H b ys) (hz : xs.length + ys.length ≤ sizeLine) (q : ∀ l, H l = none → Q (.ref l) (upd H l (.lst (xs ++ ys)))) : rCatS K (.ref p) (.ref b) H Q := ⟨p, b, xs, ys, rfl, rfl, h, hb, hz, q⟩
/-- natural numbers as the program's -/
def nz (L : List Nat) : List Int := L.map fun x : Nat => (x : Int)
theorem nz_len (L : List Nat) : (nz L).length = L.length := List.length_map _
theorem nz_at {L : List Nat} {i x : Nat} (h : L[i]? = some x) : ((nz L).map V.int)[i]? = some (.int (x : Int)) := by
  unfold nz
  rw [List.getElem?_map, List.getElem?_map, h]
  rfl
theorem at_nz {L : List Nat} {i : Nat} {v : V} (h : ((nz L).map V.int)[i]? = some v) : ∃ x, L[i]? = some x ∧ v = .int (x : Int) := by
  unfold nz at h
  rw [List.getElem?_map, List.getElem?_map] at h
  cases e : L[i]? with
  | none => rw [e] at h; cases h
  | some x => rw [e] at h; cases h; exact ⟨x, rfl, rfl⟩
theorem nz_mem {L : List Nat} {x : Nat} : ((x : Nat) : Int) ∈ nz L ↔ x ∈ L := by
  unfold nz
  rw [List.mem_map]
  exact ⟨fun ⟨y, h, e⟩ => by rw [← Int.ofNat.inj e]; exact h, fun h => ⟨x, h, rfl⟩⟩
theorem nz_inj : ∀ {a b : List Nat}, nz a = nz b → a = b
  | [], [], _ => rfl
  | [], y :: b, h => by cases h
  | x :: a, [], h => by cases h
  | x :: a, y :: b, h => by
    have h1 := (List.cons.inj h).1
    have h2 := (List.cons.inj h).2
    rw [nz_inj (show nz a = nz b from h2), Int.ofNat.inj h1]
theorem nz_app (a b : List Nat) : nz (a ++ b) = nz a ++ nz b := List.map_append
theorem nz_v (a : List Nat) (x : Nat) : (nz a).map V.int ++ [V.int (x : Int)] = (nz (a ++ [x])).map V.int := by rw [nz_app, List.map_append]; rfl
theorem lts {l : List Nat} (h : l.Pairwise (· < ·)) : (nz l).Pairwise (· < ·) := by
  unfold nz
  rw [List.pairwise_map]
  exact h.imp fun h => by omega
theorem nz_nodup {l : List Nat} (h : l.Nodup) : (nz l).Nodup := by
  unfold nz List.Nodup
  rw [List.pairwise_map]
  exact h.imp fun h e => h (Int.ofNat.inj e)
theorem nodup_lt : ∀ (n : Nat) {l : List Nat}, l.Nodup → (∀ x ∈ l, x < n) → l.length ≤ n
  | 0, [], _, _ => Nat.le_refl _
  | 0, x :: l, _, h => by have := h x List.mem_cons_self; omega
  | n + 1, l, h1, h2 => by
    by_cases m : n ∈ l
    · have h3 := nodup_lt n (l := l.erase n) (h1.erase _) (fun x hx => by
        have a := h2 x (List.mem_of_mem_erase hx)
        have b : x ≠ n := fun e => by
          rw [h1.mem_erase_iff] at hx
          exact hx.1 e
        omega)
      have := List.length_erase_of_mem m
      omega
    · have h3 := nodup_lt n h1 (fun x hx => by
        have a := h2 x hx
        have b : x ≠ n := fun e => m (e ▸ hx)
        omega)
      omega
theorem asc_nodup {l : List Nat} (h : l.Pairwise (· < ·)) : l.Nodup := h.imp fun h => by omega
/-! ### sites -/
abbrev Grid := List (List Nat)
structure SiteOk (G : Grid) : Prop where
  n1 : 1 ≤ G.length
  n2 : G.length ≤ 12
  asc : ∀ (i : Nat) (r : List Nat), G[i]? = some r → r.Pairwise (· < ·)
  lt : ∀ (i : Nat) (r : List Nat), G[i]? = some r → ∀ x ∈ r, x < G.length
  no : ∀ (i : Nat) (r : List Nat), G[i]? = some r → i ∉ r
theorem SiteOk.len {G : Grid} (h : SiteOk G) {i : Nat} {r : List Nat} (e : G[i]? = some r) : r.length ≤ 12 := Nat.le_trans (nodup_lt _ (asc_nodup (h.asc i r e)) (h.lt i r e)) h.n2
/-- the row of a page -/
def row (G : Grid) (i : Nat) : List Nat := G.getD i []
theorem row_at {G : Grid} {i : Nat} {r : List Nat} (h : G[i]? = some r) : row G i = r := by
  unfold row
  rw [List.getD_eq_getElem?_getD, h]
  rfl
theorem at_row {G : Grid} {i : Nat} (h : i < G.length) : G[i]? = some (row G i) := by
  unfold row
  rw [List.getD_eq_getElem?_getD, List.getElem?_eq_getElem h]
  rfl
theorem SiteOk.rlt {G : Grid} (h : SiteOk G) {i x : Nat} (m : x ∈ row G i) : x < G.length := by
  by_cases q : i < G.length
  · exact h.lt i _ (at_row q) x m
  · unfold row at m
    rw [List.getD_eq_getElem?_getD, List.getElem?_eq_none (by omega)] at m
    exact (List.not_mem_nil m).elim
theorem SiteOk.rlen {G : Grid} (h : SiteOk G) (i : Nat) : (row G i).length ≤ 12 := by
  by_cases q : i < G.length
  · exact h.len (at_row q)
  · unfold row
    rw [List.getD_eq_getElem?_getD, List.getElem?_eq_none (by omega)]
    exact Nat.zero_le _
/-- a list at s of lists of numbers -/
def GridAt (H : Hp) (s : Addr) (G : Grid) : Prop := ∃ ps : List Addr, H s = some (.lst (ps.map V.ref)) ∧ ps.length = G.length ∧ ∀ i p, ps[i]? = some p → H p = some (.lst ((nz (row G i)).map V.int))
theorem GridAt.ex {H H' : Hp} {s : Addr} {G : Grid} (h : GridAt H s G) (e : Ex H H') : GridAt H' s G := by
  obtain ⟨ps, h1, h2, h3⟩ := h
  exact ⟨ps, e _ _ h1, h2, fun i p q => e _ _ (h3 i p q)⟩
theorem GridAt.get {H : Hp} {s : Addr} {G : Grid} (h : GridAt H s G) {i : Nat} (hi : i < G.length) : ∃ p xs, H s = some (.lst xs) ∧ xs.length = G.length ∧ xs[i]? = some (.ref p) ∧ H p = some (.lst ((nz (row G i)).map V.int)) := by
  obtain ⟨ps, h1, h2, h3⟩ := h
  have hx : ps[i]? = some ps[i] := List.getElem?_eq_getElem (by omega)
  exact ⟨ps[i], _, h1, by rw [List.length_map]; exact h2, by rw [List.getElem?_map, hx]; rfl, h3 i _ hx⟩
theorem GridAt.lst {H : Hp} {s : Addr} {G : Grid} (h : GridAt H s G) : ∃ xs, H s = some (.lst xs) ∧ xs.length = G.length ∧ ∀ (i : Nat) (v : V), xs[i]? = some v → i < G.length ∧ ∃ p, v = .ref p ∧ H p = some (.lst ((nz (row G i)).map V.int)) := by
  obtain ⟨ps, h1, h2, h3⟩ := h
  refine ⟨_, h1, by rw [List.length_map]; exact h2, fun i v e => ?_⟩
  rw [List.getElem?_map] at e
  cases q : ps[i]? with
  | none => rw [q] at e; cases e
  | some p =>
    rw [q] at e
    cases e
    exact ⟨by have := (List.getElem?_eq_some_iff.mp q).1; omega, p, rfl, h3 i p q⟩
/-- such a list, all of it new -/
def GridN (H H' : Hp) (s : Addr) (G : Grid) : Prop := H s = none ∧ ∃ ps : List Addr, H' s = some (.lst (ps.map V.ref)) ∧ ps.length = G.length ∧ ps.Nodup ∧ s ∉ ps ∧ ∀ i p, ps[i]? = some p → H p = none ∧ H' p = some (.lst ((nz (row G i)).map V.int))
theorem GridN.at {H H' : Hp} {s : Addr} {G : Grid} (h : GridN H H' s G) : GridAt H' s G := by
  obtain ⟨_, ps, h1, h2, _, _, h3⟩ := h
  exact ⟨ps, h1, h2, fun i p q => (h3 i p q).2⟩
theorem GridN.ex {H H' H2 : Hp} {s : Addr} {G : Grid} (h : GridN H H' s G) (e : Ex H' H2) : GridN H H2 s G := by
  obtain ⟨h0, ps, h1, h2, h4, h5, h3⟩ := h
  exact ⟨h0, ps, e _ _ h1, h2, h4, h5, fun i p q => ⟨(h3 i p q).1, e _ _ (h3 i p q).2⟩⟩
theorem GridN.back {H0 H H' : Hp} {s : Addr} {G : Grid} (h : GridN H H' s G) (e : Ex H0 H) : GridN H0 H' s G := by
  obtain ⟨h0, ps, h1, h2, h4, h5, h3⟩ := h
  exact ⟨fresh_back e h0, ps, h1, h2, h4, h5, fun i p q => ⟨fresh_back e (h3 i p q).1, (h3 i p q).2⟩⟩
/-- what was new after Hc stands -/
def Nw (Hc H H' : Hp) : Prop := ∀ x o, Hc x = none → H x = some o → H' x = some o
theorem Nw.of {Hc H H' : Hp} (e : Ex H H') : Nw Hc H H' := fun x o _ h => e x o h
theorem Nw.trans {Hc H H' H'' : Hp} (e : Nw Hc H H') (f : Nw Hc H' H'') : Nw Hc H H'' := fun x o n h => f x o n (e x o n h)
theorem Nw.fx {Hc H H' : Hp} {b : Addr} {o : HO} (h : Hc b = some o) (f : Fx b H H') : Nw Hc H H' := fun x v n g => f x v (fun e => by subst e; rw [h] at n; cases n) g
theorem Nw.put {Hc H : Hp} {a : Addr} {o u : HO} (h : Hc a = some u) : Nw Hc H (upd H a o) := fun x v n g => by
  rw [upd_ne (fun e => by subst e; rw [h] at n; cases n)]
  exact g
theorem GridN.nw {H H1 H2 : Hp} {s : Addr} {G : Grid} (h : GridN H H1 s G) (e : Nw H H1 H2) : GridN H H2 s G := by
  obtain ⟨h0, ps, h1, h2, h4, h5, h3⟩ := h
  exact ⟨h0, ps, e _ _ h0 h1, h2, h4, h5, fun i p q => ⟨(h3 i p q).1, e _ _ (h3 i p q).1 (h3 i p q).2⟩⟩
/-- one row more, made while the grid stood -/
theorem GridN.push {H H1 H' : Hp} {s p : Addr} {G : Grid} {r : List Nat} (h : GridN H H1 s G) (nH : H p = none) (np : H1 p = none) (e : Nw H H1 H') (hp : H' p = some (.lst ((nz r).map V.int))) :
    ∃ xs, H' s = some (.lst xs) ∧ xs.length = G.length ∧ GridN H (upd H' s (.lst (xs ++ [.ref p]))) s (G ++ [r]) := by
  have q1 := h
  obtain ⟨h0, ps, h1, h2, h4, h5, h3⟩ := h
  have hs : p ≠ s := Ne.symm (ne_of_none h1 np)
  refine ⟨_, e _ _ h0 h1, by rw [List.length_map]; exact h2, h0, ps ++ [p], by rw [upd_same, List.map_append]; rfl, by rw [List.length_append, List.length_append, h2]; rfl, ?_, ?_, fun i q eq => ?_⟩
  · rw [List.nodup_append]
    refine ⟨h4, by simp, fun a ha b hb e => ?_⟩
    rw [List.mem_singleton.mp hb] at e
    subst e
    obtain ⟨j, hj, ej⟩ := List.getElem_of_mem ha
    have := (h3 j a (List.getElem?_eq_some_iff.mpr ⟨hj, ej⟩)).2
    rw [np] at this
    cases this
  · intro m
    rcases List.mem_append.mp m with m | m
    · exact h5 m
    · exact hs (List.mem_singleton.mp m).symm
  · by_cases hi : i < ps.length
    · rw [List.getElem?_append_left hi] at eq
      have := h3 i q eq
      have ns : q ≠ s := fun z => h5 (z ▸ List.mem_of_getElem? eq)
      refine ⟨this.1, ?_⟩
      rw [upd_ne ns, e _ _ this.1 this.2]
      unfold row
      rw [List.getD_eq_getElem?_getD, List.getD_eq_getElem?_getD, List.getElem?_append_left (by omega)]
    · rw [List.getElem?_append_right (by omega)] at eq
      have hi2 : i - ps.length = 0 := by
        have := (List.getElem?_eq_some_iff.mp eq).1
        rw [List.length_singleton] at this
        omega
      rw [hi2] at eq
      obtain rfl : p = q := by simpa using eq
      refine ⟨nH, ?_⟩
      rw [upd_ne hs, hp]
      unfold row
      have : i = G.length := by omega
      rw [this, List.getD_eq_getElem?_getD, List.getElem?_append_right (Nat.le_refl _), Nat.sub_self]
      rfl
theorem GridN.nil {H : Hp} {s : Addr} (h : H s = none) : GridN H (upd H s (.lst [])) s [] := ⟨h, [], upd_same, rfl, List.nodup_nil, List.not_mem_nil, fun i p e => by simp at e⟩
/-- as data -/
def dG (G : Grid) : PyData := .list (G.map fun r => .list ((nz r).map PyData.int))
theorem dG_LL (G : Grid) : dG G = dLL (G.map nz) := by unfold dG dLL; rw [List.map_map]; rfl
theorem GridAt.dp {K : PySem.W.Frag} {H : Hp} {s : Addr} {G : Grid} (h : GridAt H s G) : Dp K H (.ref s) (dG G) := by
  obtain ⟨ps, h1, h2, h3⟩ := h
  rw [dG_LL]
  refine .lst (.inl (.inl h1)) (dp_ll (by rw [List.length_map]; exact h2) fun i p l a b => ?_)
  rw [List.getElem?_map] at b
  cases q : G[i]? with
  | none => rw [q] at b; cases b
  | some r =>
    rw [q] at b
    cases b
    have := h3 i p a
    rw [row_at q] at this
    exact .inl (.inl this)
theorem shp_LL (ls : List (List Int)) : SeqAt.shaped (dLL ls) = true := by
  have h0 : ∀ ns : List Int, PyData.canLayAll0 (ns.map PyData.int) = true := fun ns => by
    induction ns with
    | nil => simp [PyData.canLayAll0]
    | cons n ns ih => simp [PyData.canLayAll0, PyData.canLay0, ih]
  have h1 : ∀ ls : List (List Int), PyData.canLayAll0 (ls.map fun l => PyData.list (l.map PyData.int)) = true := fun ls => by
    induction ls with
    | nil => simp [PyData.canLayAll0]
    | cons l ls ih => simp [PyData.canLayAll0, PyData.canLay0, ih, h0]
  have h2 := dep_all (ds := ls.map fun l => PyData.list (l.map PyData.int)) (n := 1) fun d m => by
      obtain ⟨l, hm, rfl⟩ := List.mem_map.mp m
      simp only [PyData.depth]
      have := dep_all (ds := l.map PyData.int) (n := 0) fun d m => by
        obtain ⟨x, hx, rfl⟩ := List.mem_map.mp m
        simp [PyData.depth]
      omega
  show (PyData.canLay0 _ && decide (PyData.depth _ ≤ 64)) = true
  rw [Bool.and_eq_true]
  refine ⟨?_, decide_eq_true ?_⟩
  · unfold dLL; simp only [PyData.canLay0]; exact h1 ls
  · unfold dLL; simp only [PyData.depth]; omega
theorem eqv_LL : ∀ as bs : List (List Int), PyData.eqv (dLL as) (dLL bs) = decide (as = bs) := fun as bs => by
  unfold dLL
  simp only [PyData.eqv]
  induction as generalizing bs with
  | nil => cases bs <;> simp [PyData.eqvAll]
  | cons a as ih =>
    cases bs with
    | nil => simp [PyData.eqvAll]
    | cons b bs =>
      simp only [List.map_cons, PyData.eqvAll, eqv_ints, ih]
      by_cases h : a = b
      · subst h; simp
      · simp [h]
theorem nzs_inj : ∀ {a b : Grid}, a.map nz = b.map nz → a = b
  | [], [], _ => rfl
  | [], y :: b, h => by cases h
  | x :: a, [], h => by cases h
  | x :: a, y :: b, h => by
    rw [List.map_cons, List.map_cons] at h
    rw [nz_inj (List.cons.inj h).1, nzs_inj (List.cons.inj h).2]
theorem eqGrid {K : PySem.W.Frag} {H : Hp} {Q : VK} {a b : Addr} {F G : Grid} (h : GridAt H a F) (g : GridAt H b G) (q : Q (.bl (decide (F = G))) H) : rEqD K (.ref a) (.ref b) H Q := by
  have e : decide (F.map nz = G.map nz) = decide (F = G) := by
    by_cases z : F = G
    · rw [z, decide_eq_true rfl, decide_eq_true rfl]
    · rw [decide_eq_false z, decide_eq_false fun y => z (nzs_inj y)]
  refine ⟨_, _, h.dp, g.dp, by rw [dG_LL]; exact shp_LL _, by rw [dG_LL]; exact shp_LL _, ?_⟩
  rw [dG_LL, dG_LL, eqv_LL, e]
  exact q
theorem neGrid {K : PySem.W.Frag} {H : Hp} {Q : VK} {a b : Addr} {F G : Grid} (h : GridAt H a F) (g : GridAt H b G) (q : Q (.bl (!decide (F = G))) H) : rNeD K (.ref a) (.ref b) H Q := by
  have e : decide (F.map nz = G.map nz) = decide (F = G) := by
    by_cases z : F = G
    · rw [z, decide_eq_true rfl, decide_eq_true rfl]
    · rw [decide_eq_false z, decide_eq_false fun y => z (nzs_inj y)]
  refine ⟨_, _, h.dp, g.dp, by rw [dG_LL]; exact shp_LL _, by rw [dG_LL]; exact shp_LL _, ?_⟩
  rw [dG_LL, dG_LL, eqv_LL, e]
  exact q
theorem at_ints {ns : List Int} {i : Nat} {n : Int} (h : ns[i]? = some n) : (ns.map V.int)[i]? = some (.int n) := by rw [List.getElem?_map, h]; rfl
theorem atI_last {xs : List V} {v : V} (h : xs[xs.length - 1]? = some v) : atI xs (-1) = some v := by
  have hl : xs.length - 1 < xs.length := (List.getElem?_eq_some_iff.mp h).1
  have e : ixN xs.length (-1) = some (xs.length - 1) := by
    unfold ixN
    rw [if_neg (by omega), if_pos (by omega)]
    congr 1
    omega
  unfold atI
  rw [e]
  exact h
theorem cutV_from1 (xs : List V) : cutV xs (some 1) none = xs.drop 1 := by
  unfold cutV
  have e2 : HT.sIx xs.length xs.length none = xs.length := rfl
  have e1 : HT.sIx xs.length 0 (some 1) = min 1 xs.length := HT.sIx_nat ..
  rw [e1, e2]
  by_cases h : 1 ≤ xs.length
  · rw [Nat.min_eq_left h, List.take_of_length_le (by rw [List.length_drop]; omega)]
  · have : xs = [] := List.length_eq_zero_iff.mp (by omega)
    rw [this]
    rfl
theorem cut_take (xs : List V) (j : Nat) : cutV xs none (some (j : Int)) = xs.take j := by
  by_cases h : j ≤ xs.length
  · exact BC.cut_to xs rfl h
  · unfold cutV
    have e1 : HT.sIx xs.length 0 none = 0 := rfl
    rw [HT.sIx_nat, e1, List.drop_zero, Nat.sub_zero, Nat.min_eq_right (by omega), List.take_length, List.take_of_length_le (by omega)]
theorem GridN.get {H H' : Hp} {s : Addr} {G : Grid} (h : GridN H H' s G) {i : Nat} (hi : i < G.length) : ∃ p xs, H' s = some (.lst xs) ∧ xs.length = G.length ∧ xs[i]? = some (.ref p) ∧ H' p = some (.lst ((nz (row G i)).map V.int)) ∧ H p = none := by
  obtain ⟨_, ps, h1, h2, _, _, h3⟩ := h
  have hx : ps[i]? = some ps[i] := List.getElem?_eq_getElem (by omega)
  exact ⟨ps[i], _, h1, by rw [List.length_map]; exact h2, by rw [List.getElem?_map, hx]; rfl, (h3 i _ hx).2, (h3 i _ hx).1⟩
theorem GridN.lower {Hl H H' : Hp} {b s : Addr} {G : Grid} (h : GridN H H' s G) (f : Fx b Hl H) (hb : ∃ o, H b = some o) : GridN Hl H' s G := by
  obtain ⟨o, ho⟩ := hb
  obtain ⟨h0, ps, h1, h2, h4, h5, h3⟩ := h
  have nb : ∀ {x : Addr}, H x = none → x ≠ b := fun n e => by subst e; rw [ho] at n; cases n
  exact ⟨fx_none f h0 (nb h0), ps, h1, h2, h4, h5, fun i p q => ⟨fx_none f (h3 i p q).1 (nb (h3 i p q).1), (h3 i p q).2⟩⟩
theorem nd_at {l : List Addr} (h : l.Nodup) {i j : Nat} {x : Addr} (a : l[i]? = some x) (b : l[j]? = some x) : i = j := by
  obtain ⟨h1, h2⟩ := List.getElem?_eq_some_iff.mp a
  obtain ⟨h3, h4⟩ := List.getElem?_eq_some_iff.mp b
  have e1 := h.idxOf_getElem i h1
  have e2 := h.idxOf_getElem j h3
  rw [h2] at e1
  rw [h4] at e2
  exact e1.symm.trans e2
/-- kept of a list -/
theorem kept_nz (s : List Nat) (k : Nat → Bool) : kept s.length (fun i => k (s.getD i 0)) (fun i => V.int ((s.getD i 0 : Nat) : Int)) = (nz (s.filter k)).map V.int := by
  unfold kept nz
  have e : (List.range s.length).map (fun i => s.getD i 0) = s := by
    apply List.ext_getElem?
    intro j
    by_cases h : j < s.length
    · rw [List.getElem?_map, List.getElem?_range h, List.getElem?_eq_getElem h]
      show some (s.getD j 0) = _
      rw [List.getD_eq_getElem?_getD, List.getElem?_eq_getElem h]
      rfl
    · rw [List.getElem?_eq_none (by rw [List.length_map, List.length_range]; omega), List.getElem?_eq_none (by omega)]
  conv => rhs; rw [← e]
  rw [List.filter_map, List.map_map, List.map_map]
  rfl
theorem kept_rng (n : Nat) (k : Nat → Bool) : kept n k (fun i => V.int ((i : Nat) : Int)) = (nz ((List.range n).filter k)).map V.int := by
  unfold kept nz
  rw [List.map_map]
  rfl
/-- zip of lists of different lengths -/
theorem lc_zipM {K : PySem.W.Frag} {σ : L2.St} {H1 : Hp} {tt : TT} {te : TE} {vs : List Nat} {Dl : Addr} {Q : VK} {a b : Addr} {xs ys : List V} {j k : Nat} (n : Nat) (keep : Nat → Bool) (f : Nat → V) (hx : SqL K H1 a xs) (hy : SqL K H1 b ys) (h1 : n ≤ xs.length) (h2 : n ≤ ys.length) (h3 : n = xs.length ∨ n = ys.length) (hD : H1 Dl = none) (hn : n ≤ 100000)
    (hw : ∀ u v : V, wipe (((wipe σ vs).set j (some u)).set k (some v)) vs = wipe σ vs)
    (ht : ∀ i x y, xs[i]? = some x → ys[i]? = some y → Evl.EvT tt (((wipe σ vs).set j (some x)).set k (some y)) H1 (keep i))
    (he : ∀ i x y, xs[i]? = some x → ys[i]? = some y → keep i = true → Evl.Ev te (((wipe σ vs).set j (some x)).set k (some y)) H1 (f i))
    (hd : ∀ H', Evl.Ex H1 H' → H' Dl = some (.lst (kept n keep f)) → Q (.ref Dl) H') : LcG (Itz K a b) (gTup K 2 (gCons (gName j) (gCons (gName k) gNil))) tt te vs σ Dl H1 Q := by
  have gx : ∀ i, i < n → xs[i]? = some (xs.getD i .non) := fun i hi => by rw [List.getD_eq_getElem?_getD, List.getElem?_eq_getElem (by omega)]; rfl
  have gy : ∀ i, i < n → ys[i]? = some (ys.getD i .non) := fun i hi => by rw [List.getD_eq_getElem?_getD, List.getElem?_eq_getElem (by omega)]; rfl
  refine lc_pure n (fun i => ((wipe σ vs).set j (some (xs.getD i .non))).set k (some (ys.getD i .non))) keep f hD hn (fun H' e => ⟨xs, ys, Evl.ex_l e hx, Evl.ex_l e hy, by omega⟩)
    (fun i H' hi e => ⟨xs, ys, _, _, Evl.ex_l e hx, Evl.ex_l e hy, gx i hi, gy i hi⟩)
    (fun i H' x H'' QG hi e y q => ?_) (fun i hi => hw _ _) (fun i hi => ht i _ _ (gx i hi) (gy i hi)) (fun i hi => he i _ _ (gx i hi) (gy i hi)) hd
  obtain ⟨T, u, v, rfl, hT, rfl, hf, hf2⟩ := y
  have hu := hf xs (Evl.ex_l e hx)
  have hv := hf2 ys (Evl.ex_l e hy)
  have e1 : xs.getD i .non = u := by rw [List.getD_eq_getElem?_getD, hu]; rfl
  have e2 : ys.getD i .non = v := by rw [List.getD_eq_getElem?_getD, hv]; rfl
  refine g_two upd_same ?_
  have q2 := q (Evl.Ex.new hT)
  rw [e1, e2] at q2
  exact q2
end BC

set_option Elab.async false
set_option linter.all false
set_option maxRecDepth 100000
set_option maxHeartbeats 4000000
/-! own __len__, sorted(d.items()), comprehensions over pairs -/
namespace BC
open PySem PySem.Spec PyProof.Rows L2 Evl
section
variable {X : Cx} {CX : CXT} {k : Nat} {C f : Addr} {fd : FuncData} {ps : List Str} {sp : Sp} {E : XK}
/-- len(o), by the class's own __len__ -/
def rLenOwn (C : Addr) (sp : Sp) (E : XK) : List V → Hp → VK → Prop := fun xs H Q => ∃ a dx fs, xs = [.ref a] ∧ H a = some (.ins C dx fs) ∧ sp [.ref a] H (fun v H' => ∃ n : Int, v = .int n ∧ 0 ≤ n ∧ n < 2 ^ 63 ∧ Q (.int n) H') E
theorem call_lenOwn (hs : PySem.W.findIn X.K (.ref C) "__len__" = some (some (.ref f))) (hf : PySem.W.isFn X.K (.ref f) = true) (F : FnOk X.prog X.w X.K X.mg X.base CX k f fd ps sp) (hr : Room (k + 1) X.A) (hb : Binds X.K fd ps []) (hx : Passes CX X E) : CallR X (.builtin "len") (rLenOwn C sp E) := by
  intro pins s σ H xs us Q I r h
  obtain ⟨a, dx, fs, rfl, ea, h⟩ := h
  obtain ⟨u, rfl, ru⟩ := vals1 r
  obtain rfl : u = Value.ref a := ru
  obtain ⟨mA, O, _, _, _, _⟩ := ins_get I.hok ea
  obtain ⟨od, J, _⟩ := O.look
  obtain ⟨m, hF⟩ := I.fr
  have hl : ([Value.ref a] ++ ([] : List Value)).length = ps.length := by
    rw [← F.len _ _ _ _ h]
    rfl
  refine PySem.W.len_K hF I.ok.mod.kin J hs hf (wpAny_call ?_)
  refine codeAny_mono (F.run X.A.in1 X.stack s H ⟨[.ref a], []⟩ [.ref a] [.ref a] _ E hr.in1 I.env0.in1 (hb _ [.ref a] I.kIn hl) (.cons rfl .nil) h) fun r s' hq => ?_
  cases r with
  | error er => exact hx pins σ H s er s' I hq
  | ok fl =>
    cases fl with
    | ret u =>
      obtain ⟨v, H', I3, rv, n, rfl, n0, n1, q⟩ := I.after hq
      obtain ⟨t, rfl⟩ := rv
      exact ⟨⟨n0, n1⟩, .int n, H', I3.tok _, ⟨_, rfl⟩, q⟩
    | next => exact False.elim hq
    | brk => exact False.elim hq
    | cont => exact False.elim hq
end
/-! ### sorted(d.items()), numbers by numbers -/
def PairAt (H : Hp) (t : Addr) (q : Int × Int) : Prop := H t = some (.tup [.int q.1, .int q.2])
def itK (q : Int × Int) : Key × V := (Sum.inl q.1, .int q.2)
def leP (a b : Int × Int) : Prop := a.1 < b.1 ∨ (a.1 = b.1 ∧ a.2 ≤ b.2)
open L2.DX
/-- d.items() of a dict of numbers or texts -/
def rItems : V → List V → Hp → VK → Prop := fun x xs H Q => ∃ (a : Addr) (kvs : List (Key × V)), x = .ref a ∧ xs = [] ∧ H a = some (.dK kvs) ∧ ∀ p, H p = none → Q (.ref p) (upd H p (itemsO p a))
def rSortIt : List V → Hp → VK → Prop := fun xs H Q => ∃ (v d : Addr) (qs : List (Int × Int)), xs = [.ref v] ∧ H v = some (itemsO v d) ∧ H d = some (.dK (qs.map itK)) ∧
  ∀ (H' : Hp) (p : Addr) (ts : List Addr) (rs : List (Int × Int)), Ex H H' → H p = none → H' p = some (.lst (ts.map V.ref)) → rs.Perm qs → rs.Pairwise leP → ts.length = rs.length → (∀ i t, ts[i]? = some t → H t = none ∧ PairAt H' t (rs.getD i (0, 0))) → Q (.ref p) H'
theorem pairs_get {κ : Type} [DecidableEq κ] {P : Program} {w : World} {knd : KeyKind P w κ} {es : List DictEntry} {vs : List (κ × Value)} (h : Pairs knd es vs) : ∀ {j : Nat} {en : DictEntry}, es[j]? = some en → ∃ kv, vs[j]? = some kv ∧ knd.is kv.1 en.key = true ∧ en.val = kv.2 := by
  induction h with
  | nil => intro j en e; simp at e
  | @cons e kv es kvs h1 h2 _ ih =>
    intro j en he
    cases j with
    | zero =>
      simp at he
      subst he
      exact ⟨kv, by simp, h1, h2⟩
    | succ j =>
      simp only [List.getElem?_cons_succ] at he ⊢
      exact ih he
section
variable {X : Cx}
theorem mt_items : MtR X "dict.items" rItems := by
  intro pins s σ H x xs v us Q I rx rxs h
  obtain ⟨a, kvs, rfl, rfl, ha, q⟩ := h
  cases rx
  cases rxs
  obtain ⟨hz, hd0, vs, kv, o, es, ep, ho, hx, hdat, _⟩ := dk_of I.hok ha
  refine DT.callItems (es := es) (ep := ep) hd0 ⟨o, ho, hx, hdat⟩ ?_
  have hf : H s.heap.objs.size = none := I.hok.fresh (Nat.le_refl _)
  exact ⟨.ref s.heap.objs.size, upd H s.heap.objs.size (itemsO s.heap.objs.size a), I.laid (t' := s.toks) (fun b u e => Heap.get?_push_of_some _ e) (Nat.le_refl _) (itemsO_ok (Heap.get?_push_size _ rfl)), rfl, q _ hf⟩
def adr : Value → Addr
  | .ref b => b
  | _ => 0
theorem cr_sortIt (hc : X.calm = true) : CallR X (.builtin "sorted") rSortIt := by
  intro pins s σ H xs us Q I r h
  obtain ⟨p, a, qs, rfl, hp, ha, q⟩ := h
  obtain rfl := Vals.ref1 r
  have view : s.heap.IsItemsView p a := (show ObjOk X.prog X.w H s.heap p (itemsO p a) from I.hok p _ hp).1
  obtain ⟨hz, hd0, vs, kv, o, es, ep, ho, hx, hdat, hks, prs, hn⟩ := dk_of I.hok ha
  rw [List.length_map] at hz
  have l1 : (qs.map itK).length = vs.length := Paired.length kv
  rw [List.length_map] at l1
  have l2 : es.size = vs.length := by rw [← prs.length, Array.length_toList]
  refine DT.sortedI (es := es) (ep := ep) (I.ok.hd hc) view ⟨o, ho, hx, hdat⟩ (by omega) fun h' tk as hk hlt hl hG => ?_
  have lak : as.length = qs.length := by omega
  have nd : as.Nodup := List.Pairwise.imp (fun h => Nat.ne_of_lt h) hG.rise
  have pr : ∀ (j : Nat) (b : Addr), as[j]? = some b → ∃ (g : Int × Int) (t u : Tok), qs[j]? = some g ∧ h'.get? b = some { cls := .type "tuple", data := .seq #[Value.int g.1 t, Value.int g.2 u] } := by
    intro j b hj
    obtain ⟨en, he, hg⟩ := hG.pairs j b hj
    have he' : es.toList[j]? = some en := by rw [Array.getElem?_toList]; exact he
    obtain ⟨kv0, h1, h2, h3⟩ := pairs_get prs he'
    have hjl : j < qs.length := by have := (List.getElem?_eq_some_iff.mp hj).1; omega
    have hq : qs[j]? = some qs[j] := List.getElem?_eq_getElem hjl
    obtain ⟨u, hu, ru⟩ := kv_get kv (i := j) (k := Sum.inl qs[j].1) (v := .int qs[j].2) (by rw [List.getElem?_map, hq]; rfl)
    rw [h1] at hu
    cases hu
    obtain ⟨tk1, hk1⟩ : RelV (kV (Sum.inl qs[j].1)) en.key := relV_key (show keyIs (Sum.inl qs[j].1) en.key = true from h2)
    obtain ⟨tk2, hk2⟩ := ru
    refine ⟨qs[j], tk1, tk2, hq, ?_⟩
    rw [hg, h3, hk2]
    have : en.key = Value.int qs[j].1 tk1 := hk1
    rw [this]
  have hob : (h'.push { cls := .type "list", data := .seq (as.map Value.ref).toArray }).get? h'.objs.size = some (seqObj "list" (as.map Value.ref).toArray 0) := Heap.get?_push_size _ rfl
  have kb : ∀ b o, s.heap.get? b = some o → (h'.push { cls := .type "list", data := .seq (as.map Value.ref).toArray }).get? b = some o := fun b o e => Heap.get?_push_of_some _ (hk b o e)
  have ne0 : ∀ b o, h'.get? b = some o → b ≠ h'.objs.size := fun b o e => Nat.ne_of_lt (Heap.lt_size e)
  generalize hh2 : h'.push { cls := .type "list", data := .seq (as.map Value.ref).toArray } = h2 at hob kb ⊢
  have ka : ∀ b o, h'.get? b = some o → h2.get? b = some o := fun b o e => by rw [← hh2]; exact Heap.get?_push_of_some _ e
  let kf : Value → Int × Int := fun u => qs.getD (as.idxOf (adr u)) (0, 0)
  have kfa : ∀ (j : Nat) (b : Addr), as[j]? = some b → kf (.ref b) = qs.getD j (0, 0) := fun j b hj => by
    obtain ⟨hjl, hjb⟩ := List.getElem?_eq_some_iff.mp hj
    show qs.getD (as.idxOf b) (0, 0) = _
    rw [← hjb, nd.idxOf_getElem j hjl]
  have isp : ∀ v ∈ as.map Value.ref, Srt.IsPair h2 v (kf v).1 (kf v).2 := fun v hv => by
    obtain ⟨b, hb, rfl⟩ := List.mem_map.mp hv
    obtain ⟨j, hj⟩ := List.mem_iff_getElem?.mp hb
    obtain ⟨g, t, u, hg, hob⟩ := pr j b hj
    rw [kfa j b hj, List.getD_eq_getElem?_getD, hg]
    exact ⟨b, _, t, u, 0, rfl, ka _ _ hob, rfl, rfl⟩
  refine wpAny_call_entry PyProof.Rows.slot_list_sort ⟨_, hob, rfl⟩ PyProof.Rows.entry_list_sort
    (SrtO.list_sort_ord (s := { s with heap := h2, toks := tk }) (SrtO.swo_lex kf) hob (by rw [List.length_map]; omega) (fun h2' => SrtO.pairs_sortableO (by omega) isp fun o e => ?_) fun out h1 h2' => ⟨.none, rfl, ?_⟩) (PyProof.Rows.args_list_sort _)
  · have e' : some o = some (seqObj "list" (as.map Value.ref).toArray 0) := e.symm.trans hob
    cases e'
    intro c
    exact absurd (Value.type.inj c) (by decide)
  · show EP X pins σ Q (.ref h'.objs.size) { s with heap := sortedHeap h2 h'.objs.size (as.map Value.ref) out.toArray, toks := tk }
    have hperm := h2'.perm
    have outr : ∀ u ∈ out, ∃ b, b ∈ as ∧ u = Value.ref b := fun u hu => by
      obtain ⟨b, hb, e⟩ := List.mem_map.mp (hperm.mem_iff.mp hu)
      exact ⟨b, hb, e.symm⟩
    have hout : out = (out.map adr).map Value.ref := by
      rw [List.map_map]
      conv => lhs; rw [← List.map_id out]
      refine List.map_congr_left fun u hu => ?_
      obtain ⟨b, _, rfl⟩ := outr u hu
      rfl
    have tperm : (out.map adr).Perm as := by
      have := hperm.map adr
      rw [List.map_map] at this
      have e : as.map (adr ∘ Value.ref) = as := by
        conv => rhs; rw [← List.map_id as]
        exact List.map_congr_left fun b _ => rfl
      rw [e] at this
      exact this
    have kF : ∀ b o, b ≠ h'.objs.size → h2.get? b = some o → (sortedHeap h2 h'.objs.size (as.map Value.ref) out.toArray).get? b = some o := fun b o hb e => (PyProof.Rows.sortedHeap_old hb (Heap.lt_size e)).trans e
    have kS : ∀ b o, s.heap.get? b = some o → (sortedHeap h2 h'.objs.size (as.map Value.ref) out.toArray).get? b = some o := fun b o e => kF b o (ne0 _ _ (hk b o e)) (kb b o e)
    obtain ⟨eF, heF⟩ := PyProof.Rows.sortedHeap_at (vs := as.map Value.ref) (out := out.toArray) hob
    have I1 : Inv X pins σ H { s with heap := sortedHeap h2 h'.objs.size (as.map Value.ref) out.toArray, toks := tk } := I.kept (t' := tk) kS
    have hn0 : H h'.objs.size = none := I.hok.fresh (Nat.le_of_lt hlt)
    have lout : (out.map adr).length = qs.length := by rw [tperm.length_eq, lak]
    have rv : Vals ((out.map adr).map V.ref) out := by
      conv => rhs; rw [hout]
      exact LiI.vals_refs _
    have I2 : Inv X pins σ (upd H h'.objs.size (.lst ((out.map adr).map V.ref))) { s with heap := sortedHeap h2 h'.objs.size (as.map Value.ref) out.toArray, toks := tk } :=
      I1.take (h' := sortedHeap h2 h'.objs.size (as.map Value.ref) out.toArray) (t' := tk) (fun b ob _ e => e) (I.fpOk (Nat.le_of_lt hlt) hn0) ⟨by rw [List.length_map, lout]; omega, out, eF, rv, heF⟩
    obtain ⟨H2, I3, g, qt⟩ := takeT (P := fun b vs => ∃ (j : Nat) (g : Int × Int), as[j]? = some b ∧ qs[j]? = some g ∧ vs = [.int g.1, .int g.2]) I as _ I2 nd fun b hb => by
      obtain ⟨j, hj⟩ := List.mem_iff_getElem?.mp hb
      obtain ⟨g, t, u, hg, hob⟩ := pr j b hj
      have hbl : s.heap.objs.size ≤ b := Nat.le_of_lt (hG.above b hb)
      refine ⟨hbl, ?_, [.int g.1, .int g.2], ⟨j, g, hj, hg, rfl⟩, fun H3 => ⟨(by rw [sizeLine_eq]; show 2 ≤ 16777216; omega), [Value.int g.1 t, Value.int g.2 u], .cons ⟨t, rfl⟩ (.cons ⟨u, rfl⟩ .nil), ⟨_, kF _ _ (ne0 _ _ hob) (ka _ _ hob), rfl, 0, rfl⟩⟩⟩
      rw [upd_ne (ne0 _ _ hob)]
      exact I.hok.fresh hbl
    have gr : ∀ b o, H b = some o → H2 b = some o := fun b o e => g b o (by rw [upd_ne (ne_of_none e hn0)]; exact e)
    refine ⟨.ref h'.objs.size, H2, I3, rfl, q H2 h'.objs.size (out.map adr) ((out.map adr).map fun b => kf (.ref b)) gr hn0 (g _ _ upd_same) ?_ ?_ (by simp only [List.length_map]) fun i t hi => ?_⟩
    · have e := tperm.map (fun b => kf (.ref b))
      have e2 : as.map (fun b => kf (.ref b)) = qs := by
        apply List.ext_getElem?
        intro j
        rw [List.getElem?_map]
        cases c : as[j]? with
        | none =>
          rw [List.getElem?_eq_none_iff] at c
          rw [List.getElem?_eq_none (by omega)]
          rfl
        | some b =>
          have hjl := (List.getElem?_eq_some_iff.mp c).1
          show some (kf (.ref b)) = _
          rw [kfa j b c, List.getD_eq_getElem?_getD, List.getElem?_eq_getElem (by omega)]
          rfl
      rw [e2] at e
      exact e
    · have hs := h1
      rw [hout] at hs
      unfold SrtO.Srtd at hs
      rw [List.pairwise_map] at hs
      rw [List.pairwise_map]
      refine hs.imp fun {x y} h => ?_
      have := SrtO.lexB_no.mp h
      unfold leP
      show (kf (.ref x)).1 < (kf (.ref y)).1 ∨ ((kf (.ref x)).1 = (kf (.ref y)).1 ∧ (kf (.ref x)).2 ≤ (kf (.ref y)).2)
      omega
    · have ta : t ∈ as := tperm.mem_iff.mp (List.mem_of_getElem? hi)
      obtain ⟨vs', ⟨j, g', j1, j2, ev⟩, hH⟩ := qt t ta
      refine ⟨I.hok.fresh (Nat.le_of_lt (hG.above t ta)), ?_⟩
      have e3 : ((out.map adr).map fun b => kf (.ref b)).getD i (0, 0) = g' := by
        rw [List.getD_eq_getElem?_getD, List.getElem?_map, hi]
        show kf (.ref t) = g'
        rw [kfa j t j1, List.getD_eq_getElem?_getD, j2]
        rfl
      unfold BC.PairAt
      rw [e3, hH, ev]
end
/-! ### xs[:1] = ys -/
theorem bounds_head (n : Nat) : sliceBounds none (some 1) none n = (((0 : Nat) : Int), ((min 1 n : Nat) : Int), 1) := by
  unfold sliceBounds
  simp
  omega
section
variable {prog : Program} {w : World} {A : Around} {s : Shared} {E : Value → Shared → Prop}
theorem setItem_head {l b sl : Addr} {items new : Array Value} {n n2 : Nat} {vl vu : Value} {Q : Unit → Shared → Prop}
    (e : s.heap.get? l = some { cls := .type "list", data := .seq items n }) (e2 : s.heap.get? b = some { cls := .type "list", data := .seq new n2 }) (hne : l ≠ b)
    (hs : s.heap.IsSliceOf sl vl vu .none) (pl : IsPart vl none) (pu : IsPart vu (some 1))
    (hsz : items.size + new.size ≤ sizeLine) (h : Q () { s with heap := s.heap.update l (Obj.mapSeq fun xs => xs.extract 0 0 ++ new ++ xs.extract (min 1 items.size) xs.size) }) :
    wpAny (model prog w) A (setItem (.ref l) (.ref sl) (.ref b)) Q E s := by
  have hl : s.heap.IsList l items := PySem.IsL.isList e
  have hb : s.heap.IsList b new := PySem.IsL.isList e2
  obtain ⟨os, hos, hcs, hds⟩ := id hs
  have hTs : s.TypeIs (.ref sl) "slice" := ⟨os, hos, hcs⟩
  have hstep : ¬ ((rawPart none == rawInt 0) = true) := Bool.false_ne_true
  have hsame : Builtin.List.listSameRef (.ref l) (.ref b) = false := by
    unfold Builtin.List.listSameRef
    exact beq_eq_false_iff_ne.mpr hne
  have hmax : (max ((0 : Nat) : Int) ((min 1 items.size : Nat) : Int)).toNat = min 1 items.size := by omega
  have hz' : ((fun xs : Array Value => xs.extract 0 0 ++ new ++ xs.extract (min 1 items.size) xs.size) items).size ≤ sizeLine + 1 := by
    simp only [Array.size_append, Array.size_extract]
    omega
  unfold setItem
  try with_reducible refine wpAny_holding ?_
  first | refine wpAny_bind (wpAny_pure ?_) | skip
  refine wpAny_bind (wpAny_sequenceKey hl.typeIs (by decide) ?_)
  refine wpAny_bind (wpAny_callSpecial?_slot (name := Str.ofString "__setitem__") hl.typeIs slot_list_setitem
    (wpAny_call_entry slot_list_setitem hl.typeIs entry_list_setitem ?_ (args_list_setitem _ _ _)))
  show wpAny _ _ (Builtin.List.listSubscript? (.ref sl) >>= _) _ _ s
  refine wpAny_bind ?_
  unfold Builtin.List.listSubscript?
  refine wpAny_bind (wpAny_specialOf hTs slice_no_index ?_)
  simp only [Option.isNone_none, if_true]
  refine wpAny_pure ?_
  show wpAny _ _ (typeOf (.ref sl) >>= _) _ _ s
  refine wpAny_bind (wpAny_typeOf hTs ?_)
  first
    | rw [if_neg (by decide)]
    | refine PySem.W.KFB.if_not (by decide) ?_
  rw [listSliceParts_eq]
  refine wpAny_bind (wpAny_bind (wpAny_field hos hds (x := .none) rfl (wpAny_bind (wpAny_listPart .none ?_))))
  rw [if_neg hstep]
  refine wpAny_bind (wpAny_field hos hds (x := vl) rfl (wpAny_bind (wpAny_listPart pl ?_)))
  refine wpAny_bind (wpAny_field hos hds (x := vu) rfl (wpAny_bind (wpAny_listPart pu (wpAny_pure ?_))))
  first
    | simp only [hsame, Bool.false_eq_true, if_false]
    | refine PySem.W.KFB.if_not hsame ?_
    | (dsimp only
       rw [if_neg (by rw [hsame]; exact Bool.false_ne_true)])
  refine wpAny_bind (m := Builtin.List.listAllItems (.ref b) "must assign iterable to extended slice") ?_
  unfold Builtin.List.listAllItems
  refine wpAny_bind (wpAny_typeOf hb.typeIs ?_)
  first
    | refine PySem.W.KFB.if_so (by decide) ?_
    | rw [if_pos (by decide)]
    | simp only [beq_self_eq_true, Bool.true_or, if_true]
  unfold Builtin.List.listItems
  refine wpAny_bind (wpAny_seqItems e2 rfl (wpAny_pure ?_))
  refine wpAny_bind (wpAny_bind (wpAny_seqItems e rfl (wpAny_pure ?_)))
  refine wpAny_bind (wpAny_of_eq ((sliceIndices_raw none (some 1) none items.size (by simp)).trans (congrArg (pure : Int × Int × Int → Sem (Int × Int × Int)) (bounds_head items.size))) ?_)
  show wpAny _ _ (if ((1 : Int) == 1) = true then _ else _) _ _ s
  rw [if_pos (by decide)]
  refine wpAny_bind (wpAny_rule ?_)
  first
    | simp only [notLongL hsz, Bool.false_eq_true, if_false]
    | refine PySem.W.KFB.if_not (notLongL hsz) ?_
  first | refine wpAny_bind (wpAny_pure ?_) | skip
  show wpAny _ _ (updateSeq l (fun xs => xs.extract 0 ((0 : Nat) : Int).toNat ++ new ++ xs.extract (max ((0 : Nat) : Int) ((min 1 items.size : Nat) : Int)).toNat xs.size) >>= _) _ _ s
  rw [hmax, Int.toNat_natCast]
  refine wpAny_bind (wpAny_updateSeq (hz := Nat.le_trans (Nat.le_add_right _ _) hsz) (_hz' := hz') e rfl ?_)
  refine wpAny_bind (wpAny_letGo ?_)
  first
    | exact wpAny_bind (wpAny_pure (wpAny_pure ⟨.none, rfl, wpAny_pure h⟩))
    | exact wpAny_pure ⟨.none, rfl, wpAny_pure h⟩
end
section
variable {X : Cx} {o e : Expr} {to : TE} {p2 pos : Pos}
/-- o[:1] = v, both lists -/
def gHead (to : TE) : TG := fun v σ H QG => to σ H fun x H1 => ∃ a b xs ys, x = .ref a ∧ v = .ref b ∧ a ≠ b ∧ H1 a = some (.lst xs) ∧ H1 b = some (.lst ys) ∧ xs.length + ys.length ≤ sizeLine ∧ QG σ (upd H1 a (.lst (ys ++ xs.drop 1)))
theorem set_head {pins : List (Addr × Obj)} {s : Shared} {σ : L2.St} {H : Hp} {l b sl : Addr} {xs ys : List V} {vl vu : Value} {Q : Unit → Shared → Prop} (I : Inv X pins σ H s)
    (hH : H l = some (.lst xs)) (hB : H b = some (.lst ys)) (hne : l ≠ b) (hs : s.heap.IsSliceOf sl vl vu .none) (pl : IsPart vl none) (pu : IsPart vu (some 1))
    (hz : xs.length + ys.length ≤ sizeLine) (h : ∀ s', Inv X pins σ (upd H l (.lst (ys ++ xs.drop 1))) s' → Q () s') :
    wpAny (model X.prog X.w) X.A (setItem (.ref l) (.ref sl) (.ref b)) Q X.xe s := by
  obtain ⟨z, its, n, r, hl, e⟩ := I.lstM hH
  obtain ⟨z2, its2, n2, r2, hl2, e2⟩ := I.lstM hB
  refine setItem_head e e2 hne hs pl pu (by rw [List.size_toArray, List.size_toArray]; omega) (h _ ?_)
  have ed : ∀ {α : Type} (zs : List α), zs.drop (min 1 zs.length) = zs.drop 1 := fun zs => by
    cases zs with
    | nil => rfl
    | cons a zs => rw [List.length_cons, show min 1 (zs.length + 1) = 1 by omega]
  have er : ys ++ xs.drop 1 = xs.take 0 ++ ys ++ xs.drop (min 1 xs.length) := by rw [ed, List.take_zero, List.nil_append]
  rw [er]
  refine I.lset (its' := its.take 0 ++ its2 ++ its.drop (min 1 its.length)) (t' := s.toks) hH e ?_ (Vals.append (Vals.append (r.take _) r2) (by rw [r.length]; exact r.drop _)) ?_
  · rw [List.size_toArray]
    exact splice_eq its its2 0 (min 1 its.length)
  · rw [List.length_append, List.length_append, List.length_take, List.length_drop]
    omega
theorem pg_head {k1 : Nat} {p3 : Pos} (ho : PE X o to)
    (ha0 : ∀ v, assign (.Subscript o (.Slice none (some (.Constant (.int 1) k1 p3)) none p2) pos) X.env v = (do
      let ov ← holding [v] (eval o X.env)
      let iv ← holding [v, ov] (eval (.Slice none (some (.Constant (.int 1) k1 p3)) none p2) X.env)
      standAt pos
      holding [v, ov, iv] (setItem ov iv v)
      release [iv, v, ov] []) := by intro _; rfl) : PG X (.Subscript o (.Slice none (some (.Constant (.int 1) k1 p3)) none p2) pos) (gHead to) := by
  refine ⟨fun pins s σ H v u Q I r h => ?_⟩
  rw [ha0]
  refine wpAny_bind (wpAny_holding (thn (ho.run pins s σ H _ I h) fun ov s1 ⟨x, H1, I1, r1, q1⟩ => ?_))
  obtain ⟨a, b, xs, ys, rfl, rfl, hne, ha, hb, hz, q⟩ := q1
  cases r1
  cases r
  refine wpAny_bind (wpAny_holding ?_)
  refine wpAny_Slice ?_
  rw [evalPart_none]
  refine wpAny_pure ?_
  rw [evalPart_some]
  refine thn ((pe_int (X := X) (i := 1)).run pins s1 σ H1 (fun v H' => v = .int 1 ∧ H' = H1) I1 ⟨rfl, rfl⟩) fun u s2 ⟨x, H2, I2, r2, ex, eH⟩ => ?_
  subst ex
  subst eH
  obtain ⟨t, rfl⟩ := r2
  refine wpAny_pure ?_
  have I4 : Inv X pins σ H2 { s2 with heap := s2.heap.push { cls := .type "slice", data := .fields #[.none, .int 1 t, .none] } } := I2.kept (t' := s2.toks) fun b ob q => Heap.get?_push_of_some _ q
  refine wpAny_bind (wpAny_standAt (wpAny_bind (wpAny_holding ?_)))
  refine set_head I4 ha hb hne (Heap.IsSliceOf.new ..) .none (.int _ _) hz fun s' I5 => ?_
  exact wpAny_release ⟨σ, _, I5, q⟩
theorem x_ghead {σ : L2.St} {H : Hp} {v : V} {QG : L2.St → Hp → Prop} : gHead to v σ H QG = to σ H fun x H1 => ∃ a b xs ys, x = .ref a ∧ v = .ref b ∧ a ≠ b ∧ H1 a = some (.lst xs) ∧ H1 b = some (.lst ys) ∧ xs.length + ys.length ≤ sizeLine ∧ QG σ (upd H1 a (.lst (ys ++ xs.drop 1))) := rfl
end
/-! ### comprehensions over pairs -/
section
variable {K : PySem.W.Frag} {σ : L2.St} {H1 : Hp} {g : TG} {tt : TT} {te : TE} {vs : List Nat} {Dl : Addr} {Q : VK}
/-- the items of a list or a tuple are pairs -/
theorem lc_pairs {a : Addr} {J : It} {ts : List Addr} {u v : Nat → V} {j k : Nat} (hJ : (J = Itl K a ∧ SqL K H1 a (ts.map V.ref)) ∨ (J = Itt K a ∧ SqT K H1 a (ts.map V.ref))) (hp : ∀ i t, ts[i]? = some t → H1 t = some (.tup [u i, v i])) (keep : Nat → Bool) (f : Nat → V) (hD : H1 Dl = none) (hn : ts.length ≤ 100000)
    (hw : ∀ x y : V, wipe (((wipe σ vs).set j (some x)).set k (some y)) vs = wipe σ vs)
    (ht : ∀ i, i < ts.length → Evl.EvT tt (((wipe σ vs).set j (some (u i))).set k (some (v i))) H1 (keep i))
    (he : ∀ i, i < ts.length → keep i = true → Evl.Ev te (((wipe σ vs).set j (some (u i))).set k (some (v i))) H1 (f i))
    (hd : ∀ H', Evl.Ex H1 H' → H' Dl = some (.lst (kept ts.length keep f)) → Q (.ref Dl) H') : LcG J (gTup K 2 (gCons (gName j) (gCons (gName k) gNil))) tt te vs σ Dl H1 Q := by
  have gt : ∀ i, i < ts.length → ts[i]? = some (ts.getD i 0) := fun i hi => by rw [List.getD_eq_getElem?_getD, List.getElem?_eq_getElem hi]; rfl
  have fin : ∀ (i : Nat) (H' : Hp) (x : V) (QG : L2.St → Hp → Prop), i < ts.length → Evl.Ex H1 H' → (ts.map V.ref)[i]? = some x → (Evl.Ex H' H' → QG (((wipe σ vs).set j (some (u i))).set k (some (v i))) H') → gTup K 2 (gCons (gName j) (gCons (gName k) gNil)) x (wipe σ vs) H' QG := fun i H' x QG hi e hx q => by
    rw [List.getElem?_map, gt i hi] at hx
    cases hx
    exact g_two (e _ _ (hp i _ (gt i hi))) (q (Ex.refl _))
  rcases hJ with ⟨rfl, hx⟩ | ⟨rfl, hx⟩
  · refine lc_pure ts.length (fun i => ((wipe σ vs).set j (some (u i))).set k (some (v i))) keep f hD hn (fun H' e => ⟨_, Evl.ex_l e hx, by rw [List.length_map]; exact Nat.le_refl _⟩) (fun i H' hi e => ⟨_, _, Evl.ex_l e hx, by rw [List.getElem?_map, gt i hi]; rfl⟩)
      (fun i H' x H'' QG hi e y q => ?_) (fun i hi => hw _ _) ht he hd
    obtain ⟨rfl, hf⟩ := y
    exact fin i _ _ QG hi e (hf _ (Evl.ex_l e hx)) q
  · refine lc_pure ts.length (fun i => ((wipe σ vs).set j (some (u i))).set k (some (v i))) keep f hD hn (fun H' e => ⟨_, Evl.ex_t e hx, by rw [List.length_map]; exact Nat.le_refl _⟩) (fun i H' hi e => ⟨_, _, Evl.ex_t e hx, by rw [List.getElem?_map, gt i hi]; rfl⟩)
      (fun i H' x H'' QG hi e y q => ?_) (fun i hi => hw _ _) ht he hd
    obtain ⟨rfl, hf⟩ := y
    exact fin i _ _ QG hi e (hf _ (Evl.ex_t e hx)) q
/-- zip of two lists, the second not longer -/
theorem lc_zipS {a b : Addr} {xs ys : List V} {j k : Nat} (keep : Nat → Bool) (f : Nat → V) (hx : SqL K H1 a xs) (hy : SqL K H1 b ys) (he0 : ys.length ≤ xs.length) (hD : H1 Dl = none) (hn : ys.length ≤ 100000)
    (hw : ∀ u v : V, wipe (((wipe σ vs).set j (some u)).set k (some v)) vs = wipe σ vs)
    (ht : ∀ i x y, xs[i]? = some x → ys[i]? = some y → Evl.EvT tt (((wipe σ vs).set j (some x)).set k (some y)) H1 (keep i))
    (he : ∀ i x y, xs[i]? = some x → ys[i]? = some y → keep i = true → Evl.Ev te (((wipe σ vs).set j (some x)).set k (some y)) H1 (f i))
    (hd : ∀ H', Evl.Ex H1 H' → H' Dl = some (.lst (kept ys.length keep f)) → Q (.ref Dl) H') : LcG (Itz K a b) (gTup K 2 (gCons (gName j) (gCons (gName k) gNil))) tt te vs σ Dl H1 Q := by
  have gx : ∀ i, i < ys.length → xs[i]? = some (xs.getD i .non) := fun i hi => by rw [List.getD_eq_getElem?_getD, List.getElem?_eq_getElem (by omega)]; rfl
  have gy : ∀ i, i < ys.length → ys[i]? = some (ys.getD i .non) := fun i hi => by rw [List.getD_eq_getElem?_getD, List.getElem?_eq_getElem hi]; rfl
  refine lc_pure ys.length (fun i => ((wipe σ vs).set j (some (xs.getD i .non))).set k (some (ys.getD i .non))) keep f hD hn (fun H' e => ⟨xs, ys, Evl.ex_l e hx, Evl.ex_l e hy, ?_⟩)
    (fun i H' hi e => ⟨xs, ys, _, _, Evl.ex_l e hx, Evl.ex_l e hy, gx i hi, gy i hi⟩)
    (fun i H' x H'' QG hi e y q => ?_) (fun i hi => hw _ _) (fun i hi => ht i _ _ (gx i hi) (gy i hi)) (fun i hi => he i _ _ (gx i hi) (gy i hi)) hd
  · first | exact .inr (Nat.le_refl _) | exact .inr ⟨by omega, Nat.le_refl _⟩ | (simp; omega)
  obtain ⟨T, u, v, rfl, hT, rfl, hf, hf2⟩ := y
  have hu := hf xs (Evl.ex_l e hx)
  have hv := hf2 ys (Evl.ex_l e hy)
  have e1 : xs.getD i .non = u := by rw [List.getD_eq_getElem?_getD, hu]; rfl
  have e2 : ys.getD i .non = v := by rw [List.getD_eq_getElem?_getD, hv]; rfl
  refine g_two upd_same ?_
  have q2 := q (Evl.Ex.new hT)
  rw [e1, e2] at q2
  exact q2
end
/-! ### dict(pairs), sorted(d) -/
section
variable {K : PySem.W.Frag}
theorem putK_end {kvs : List (Key × V)} {k : Key} {v : V} (h : k ∉ kvs.map (·.1)) : putK kvs k v = kvs ++ [(k, v)] := by
  unfold putK
  rw [if_neg]
  intro e
  obtain ⟨p, hp, e⟩ := List.any_eq_true.mp e
  exact h (List.mem_map.mpr ⟨p, hp, of_decide_eq_true e⟩)
theorem mergeK_nodup : ∀ (more kvs : List (Key × V)), ((kvs ++ more).map (·.1)).Nodup → mergeK kvs more = kvs ++ more
  | [], kvs, _ => by rw [List.append_nil]; rfl
  | p :: more, kvs, h => by
    have hn : p.1 ∉ kvs.map (·.1) := fun hm => by
      rw [List.map_append, List.nodup_append] at h
      exact h.2.2 p.1 hm p.1 (by simp) rfl
    show mergeK (putK kvs p.1 p.2) more = _
    rw [putK_end hn, mergeK_nodup more _ (by rw [List.append_assoc]; exact h)]
    simp
theorem nodup_itK {qs : List (Int × Int)} (h : (qs.map (·.1)).Nodup) : ((qs.map itK).map (·.1)).Nodup := by
  have e : (qs.map itK).map (·.1) = (qs.map (·.1)).map Sum.inl := by rw [List.map_map, List.map_map]; rfl
  rw [e, List.nodup_iff_pairwise_ne, List.pairwise_map]
  exact h.imp fun h e => h (Sum.inl.inj e)
/-- what the list of pairs at a reads -/
def PairsAt (K : PySem.W.Frag) (H : Hp) (a : Addr) (ts : List Addr) (qs : List (Int × Int)) : Prop := SqL K H a (ts.map V.ref) ∧ ts.length = qs.length ∧ ∀ i t, ts[i]? = some t → PairAt H t (qs.getD i (0, 0))
theorem PairsAt.ex {H H' : Hp} {a : Addr} {ts : List Addr} {qs : List (Int × Int)} (h : PairsAt K H a ts qs) (e : Ex H H') : PairsAt K H' a ts qs := ⟨ex_l e h.1, h.2.1, fun i t hi => e _ _ (h.2.2 i t hi)⟩
def rDictI (K : PySem.W.Frag) : List V → Hp → VK → Prop := fun xs H Q => ∃ (a : Addr) (ts : List Addr) (qs : List (Int × Int)), xs = [.ref a] ∧ PairsAt K H a ts qs ∧ (qs.map (·.1)).Nodup ∧ ∀ p, H p = none → Q (.ref p) (upd H p (.dK (qs.map itK)))
theorem paired_of {H : Hp} : ∀ {ts : List Addr} {qs : List (Int × Int)}, ts.length = qs.length → (∀ (i : Nat) t, ts[i]? = some t → PairAt H t (qs.getD i (0, 0))) → Paired (fun p kv => SqT K H p [kV kv.1, kv.2]) ts (qs.map itK)
  | [], [], _, _ => .nil
  | [], _ :: _, h, _ => by simp at h
  | _ :: _, [], h, _ => by simp at h
  | t :: ts, q :: qs, h, hp => .cons (.inl (.inl (hp 0 t rfl))) (paired_of (by simpa using h) fun i u hi => by
    have := hp (i + 1) u (by simpa using hi)
    simpa using this)
theorem k_dictP {X : Cx} (hK : X.K = K) (hc : X.calm = true) : CallR X (.type "dict") (rDictI K) := by
  subst hK
  intro pins s σ H xs us Q I r h
  obtain ⟨a, ts, qs, rfl, ⟨hs, hl, hp⟩, nd, q⟩ := h
  refine call_dictP hc pins s σ H _ us Q I r ⟨a, ts, qs.map itK, rfl, hs, paired_of hl hp, fun p np => ?_⟩
  have e : mergeK [] (qs.map itK) = qs.map itK := by rw [mergeK_nodup _ _ (by simpa using nodup_itK nd)]; rfl
  rw [e]
  exact q p np
def rSortDI : List V → Hp → VK → Prop := fun xs H Q => ∃ (a : Addr) (kvs : List (Key × V)) (ks : List Int), xs = [.ref a] ∧ Rd H a (.dK kvs) ∧ kvs.map (·.1) = ks.map Sum.inl ∧ ks.length < 64 ∧
    ∀ (ys : List Int) (p : Addr), ys.Perm ks → ys.Pairwise (· ≤ ·) → H p = none → Q (.ref p) (upd H p (.lst (ys.map V.int)))
theorem cr_sortDI {X : Cx} (hc : X.calm = true) : CallR X (.builtin "sorted") rSortDI := call_sortedDI hc
theorem tyD {H : Hp} {p : Addr} {kvs : List (Key × V)} (h : H p = some (.dK kvs)) : tyV K "dict" (.ref p) H := .inr (.inr (.inl ⟨rfl, .inl ⟨kvs, h⟩⟩))
theorem valV_itK {qs : List (Int × Int)} (nd : (qs.map (·.1)).Nodup) {x y : Int} (h : (x, y) ∈ qs) : valV (qs.map itK) (Sum.inl x) = some (.int y) := by
  induction qs with
  | nil => exact (List.not_mem_nil h).elim
  | cons q qs ih =>
    rw [List.map_cons, List.nodup_cons] at nd
    rw [List.map_cons]
    rcases List.mem_cons.mp h with e | h
    · subst e
      exact valV_pos rfl
    · have ne : q.1 ≠ x := fun e => nd.1 (List.mem_map.mpr ⟨(x, y), h, e.symm⟩)
      rw [valV_neg (by show ¬ (Sum.inl q.1 : Key) = Sum.inl x; exact fun e => ne (Sum.inl.inj e))]
      exact ih nd.2 h
theorem valV_itK_none {qs : List (Int × Int)} {x : Int} (h : x ∉ qs.map (·.1)) : valV (qs.map itK) (Sum.inl x) = none := by
  induction qs with
  | nil => rfl
  | cons q qs ih =>
    rw [List.map_cons, List.mem_cons, not_or] at h
    rw [List.map_cons, valV_neg (by show ¬ (Sum.inl q.1 : Key) = Sum.inl x; exact fun e => h.1 (Sum.inl.inj e).symm)]
    exact ih h.2
end
/-! ### readings -/
section
variable {K : PySem.W.Frag} {σ : L2.St} {H : Hp} {Q : VK} {ta tv : TE} {a : TA} {D : Ends} {f : Str} {C : Addr} {sp : Sp} {dvs : List V} {E : XK}
theorem x_fld : tFld K ta f σ H Q = ta σ H (fun x H1 => ∃ a C dx fs v, x = .ref a ∧ H1 a = some (.ins C dx fs) ∧ Cls K C ∧ NoAttr K C f ∧ fs.lookup f = some v ∧ Q v H1) := rfl
theorem x_sfld : sFld K ta tv f D σ H = tv σ H (fun y H1 => ta σ H1 fun x H2 => ∃ a C dx fs, x = .ref a ∧ H2 a = some (.ins C dx fs) ∧ Cls K C ∧ NoAttr K C f ∧ fs.length < 1000 ∧ D.nx σ (upd H2 a (.ins C dx (putF f y fs)))) := rfl
theorem x_prop : tProp C sp dvs E ta σ H Q = ta σ H (fun x H1 => ∃ a dx fs, x = .ref a ∧ H1 a = some (.ins C dx fs) ∧ sp (.ref a :: dvs) H1 Q E) := rfl
theorem x_meth {m : Str} {t : TA} : tMeth C m sp dvs E ta t σ H Q = ta σ H (fun x H1 => ∃ a dx fs, x = .ref a ∧ H1 a = some (.ins C dx fs) ∧ fs.lookup m = none ∧ t σ H1 fun vs H2 => sp (x :: (vs ++ dvs)) H2 Q E) := rfl
theorem x_make : tMake C sp dvs E a σ H Q = a σ H (fun vs H1 => ∀ x dx, H1 x = none → H1 dx = none → dx ≠ x → sp (.ref x :: (vs ++ dvs)) (upd (upd H1 dx (.own x)) x (.ins C dx [])) (fun v H2 => v = .non ∧ Q (.ref x) H2) E) := rfl
theorem k_fld {X : Cx} {e : Expr} {pos : Pos} (hK : X.K = K) (he : PE X e ta) (hb : attributeBase e f X.env (eval e X.env) = eval e X.env) : PE X (.Attribute e f pos) (tFld K ta f) := by subst hK; exact pe_fld he hb
theorem k_sfld {X : Cx} {o value : Expr} {pos' pos : Pos} (hK : X.K = K) (ha : PE X o ta) (hv : PE X value tv) (hs : swapsWith value (some (.Attribute o f pos')) pos.line X.env = pure false) : PS X (.Assign [.Attribute o f pos'] value pos) (sFld K ta tv f) := by subst hK; exact ps_fld ha hv hs
def DcG (J : It) (g : TG) (tt : TT) (tk tv : TE) (vs : List Nat) (σ : L2.St) (D : Addr) (H1 : Hp) (Q : VK) : Prop := ∃ W : Nat → Nat → Hp → Prop, (∃ m, W 0 m (upd H1 D (.dK []))) ∧ ∀ i m H, W i m H →
  (J.stop i H ∧ Q (.ref D) H) ∨ (J.go i H ∧ ∃ Nx : Hp → Prop, (∀ H', Nx H' → ∃ m', m' < m ∧ W (i + 1) m' H') ∧ ∀ x H', J.yld i H x H' → g x (wipe σ vs) H' fun σ2 H2 => wipe σ2 vs = wipe σ vs ∧ tt σ2 H2 fun b H3 =>
    if b = true then tk σ2 H3 fun y H4 => tv σ2 H4 fun z H5 => ∃ kvs k, y = kV k ∧ H5 D = some (.dK kvs) ∧ kvs.length < sizeLine ∧ Nx (upd H5 D (.dK (putK kvs k z))) else Nx H3)
theorem x_dc {wi : TI} {g : TG} {tt : TT} {tk tv : TE} {vs : List Nat} : tDc wi g tt tk tv vs σ H Q = wi σ H (fun J H1 => ∀ D, H1 D = none → DcG J g tt tk tv vs σ D H1 Q) := rfl
theorem dcg_tup {a : Addr} {xs : List V} {g : TG} {tt : TT} {tk tv : TE} {vs : List Nat} {H1 : Hp} {D : Addr} (Pv : Nat → Hp → Prop) (h0 : Pv 0 (upd H1 D (.dK []))) (hl : ∀ i H, i ≤ xs.length → Pv i H → SqT K H a xs)
    (hs : ∀ i x H, xs[i]? = some x → Pv i H → g x (wipe σ vs) H fun σ2 H2 => wipe σ2 vs = wipe σ vs ∧ tt σ2 H2 fun b H3 =>
      if b = true then tk σ2 H3 fun y H4 => tv σ2 H4 fun z H5 => ∃ kvs k, y = kV k ∧ H5 D = some (.dK kvs) ∧ kvs.length < sizeLine ∧ Pv (i + 1) (upd H5 D (.dK (putK kvs k z))) else Pv (i + 1) H3) (hd : ∀ H, Pv xs.length H → Q (.ref D) H) : DcG (Itt K a) g tt tk tv vs σ D H1 Q := dc_tup (Qd := fun H => Q (.ref D) H) Pv h0 hl hs hd
end
theorem lg_zip {K : PySem.W.Frag} {a b : Addr} {xs ys : List V} {g : TG} {tb : TS} {D : Ends} {σ : L2.St} {H : Hp} (hl : xs.length = ys.length) (Pv : Nat → L2.St → Hp → Prop) (h0 : Pv 0 σ H) (hq : ∀ i σ H, Pv i σ H → SqL K H a xs ∧ SqL K H b ys)
    (hs : ∀ (i : Nat) (x y : V) (T : Addr) (σ : L2.St) (H : Hp), xs[i]? = some x → ys[i]? = some y → Pv i σ H → H T = none → g (.ref T) σ (upd H T (.tup [x, y])) fun σ2 H2 => tb { D with nx := Pv (i + 1), ct := Pv (i + 1), bk := D.nx } σ2 H2) (hd : ∀ σ H, Pv xs.length σ H → D.nx σ H) : LoopG (Itz K a b) g tb D σ H := RZ.for_zipL hl Pv h0 hq hs hd
/-! ### what comes behind each visit -/
def seconds (row : List Int) : List Int := row.drop 1 ++ row.drop (row.length - 1)
theorem cut_drop1 (row : List Int) : cutV (row.map V.int) (some 1) none = (row.drop 1).map V.int := by
    cases row with
    | nil => rfl
    | cons a r =>
      have e : HT.sIx ((a :: r).map V.int).length 0 (some 1) = 1 := by
        show (if (1 : Int) < 0 then ((1 : Int) + (((a :: r).map V.int).length : Int)).toNat else min (1 : Int).toNat ((a :: r).map V.int).length) = 1
        rw [if_neg (by omega), List.length_map, List.length_cons]
        show min 1 (r.length + 1) = 1
        omega
      unfold cutV
      rw [e, HT.sIx_none, List.map_drop, List.take_of_length_le (by rw [List.length_drop]; exact Nat.le_refl _)]
theorem cut_seconds (row : List Int) : cutV (row.map V.int) (some 1) none ++ cutV (row.map V.int) (some (-1)) none = (seconds row).map V.int := by
  have h1 : cutV (row.map V.int) (some 1) none = (row.drop 1).map V.int := by
    unfold cutV
    cases row with
    | nil => rfl
    | cons a r =>
      have e : HT.sIx ((a :: r).map V.int).length 0 (some 1) = 1 := by
        show (if (1 : Int) < 0 then ((1 : Int) + (((a :: r).map V.int).length : Int)).toNat else min (1 : Int).toNat ((a :: r).map V.int).length) = 1
        rw [if_neg (by omega), List.length_map, List.length_cons]
        show min 1 (r.length + 1) = 1
        omega
      rw [e, HT.sIx_none, List.map_drop, List.take_of_length_le (by rw [List.length_drop]; exact Nat.le_refl _)]
  have h2 : cutV (row.map V.int) (some (-1)) none = (row.drop (row.length - 1)).map V.int := by
    have e : HT.sIx (row.map V.int).length 0 (some (-1)) = row.length - 1 := by
      show (if (-1 : Int) < 0 then ((-1 : Int) + ((row.map V.int).length : Int)).toNat else min (-1 : Int).toNat (row.map V.int).length) = _
      rw [if_pos (by omega), List.length_map]
      omega
    unfold cutV
    rw [e, HT.sIx_none, List.map_drop, List.take_of_length_le]
    rw [List.length_drop, List.length_map]
    exact Nat.le_refl _
  rw [h1, h2, seconds, List.map_append]
theorem seconds_len (row : List Int) : (seconds row).length = row.length := by
  unfold seconds
  rw [List.length_append, List.length_drop, List.length_drop]
  omega
theorem seconds_at {row : List Int} {i : Nat} (hi : i < row.length) : (seconds row)[i]? = some ((row.drop (i + 1)).headD (row.getD i 0)) := by
  unfold seconds
  by_cases c : i + 1 < row.length
  · rw [List.getElem?_append_left (by rw [List.length_drop]; omega), List.getElem?_drop, List.headD_eq_head?_getD, List.head?_drop, Nat.add_comm 1 i, List.getElem?_eq_getElem c]
    rfl
  · rw [List.getElem?_append_right (by rw [List.length_drop]; omega), List.length_drop, List.getElem?_drop, List.drop_eq_nil_of_le (by omega), show row.length - 1 + (i - (row.length - 1)) = i by omega, List.getD_eq_getElem?_getD, List.getElem?_eq_getElem hi]
    rfl
theorem ev_din {ty td : TE} {σ : L2.St} {H : Hp} {d : Addr} {kvs : List (Key × V)} {k : Key} (hy : Ev ty σ H (kV k)) (hd : Ev td σ H (.ref d)) (h : H d = some (.dK kvs)) : Ev (tDIn ty td) σ H (.bl (valV kvs k).isSome) := fun H1 e Q q => hy H1 e _ fun H2 e2 => hd H2 (e.trans e2) _ fun H3 e3 => ⟨d, _, rfl, DGet.k (e3 _ _ (e2 _ _ (e _ _ h))), q H3 (e2.trans e3)⟩
theorem ev_dnotin {ty td : TE} {σ : L2.St} {H : Hp} {d : Addr} {kvs : List (Key × V)} {k : Key} (hy : Ev ty σ H (kV k)) (hd : Ev td σ H (.ref d)) (h : H d = some (.dK kvs)) : Ev (tDNotIn ty td) σ H (.bl (!(valV kvs k).isSome)) := fun H1 e Q q => hy H1 e _ fun H2 e2 => hd H2 (e.trans e2) _ fun H3 e3 => ⟨d, _, rfl, DGet.k (e3 _ _ (e2 _ _ (e _ _ h))), q H3 (e2.trans e3)⟩
theorem ev_dget {ty td : TE} {σ : L2.St} {H : Hp} {d : Addr} {kvs : List (Key × V)} {k : Key} {v : V} (hd : Ev td σ H (.ref d)) (hy : Ev ty σ H (kV k)) (h : H d = some (.dK kvs)) (hv : valV kvs k = some v) : Ev (tDGet td ty) σ H v := fun H1 e Q q => hd H1 e _ fun H2 e2 => hy H2 (e.trans e2) _ fun H3 e3 => ⟨d, v, rfl, .inl ⟨_, k, .inl (e3 _ _ (e2 _ _ (e _ _ h))), rfl, hv.symm⟩, q H3 (e2.trans e3)⟩
theorem putK_le (c : List (Key × V)) (k : Key) (x : V) : (putK c k x).length ≤ c.length + 1 := by
  unfold putK
  split
  · rw [List.length_map]; omega
  · rw [List.length_append, List.length_singleton]; omega
end BC

set_option Elab.async false
set_option linter.all false
set_option maxRecDepth 100000
set_option maxHeartbeats 4000000
/-! an own object is called -/
namespace BC
open PySem PySem.Spec PySem.Calls PyProof.Rows L2 Evl
section
variable {M : Model} {A : Around} {E : Value → Shared → Prop} {s : Shared} {env : Env} {pos : Pos} {x : Addr} {first : List Value} {Q : Value → Shared → Prop}
theorem callWith_own {args : List (Bool × Sem Value)} {keywords : List (Option Str × Sem Value)} (hplain : (args.any (·.1) || keywords.any (·.1.isNone)) = false)
    (h : wpAny M A (evalArgs (.ref x) true args keywords) (fun a s₁ => (∃ C ox od, PySem.W.InstAt s₁.heap x ox C od ∧ ox.data = .plain) ∧ wpAny M A (call (.ref x) (first ++ a.pos) a.kw) Q E s₁) E s) : wpAny M A (callWith pos (.ref x) first args keywords) Q E s := by
  unfold callWith
  refine wpAny_bind (wpAny_holding (wpAny_mono h (fun a s₁ h₁ => wpAny_bind (wpAny_standAt ?_)) fun _ _ y => y))
  obtain ⟨⟨C, ox, od, J, hd⟩, h2⟩ := h₁
  have L := PySem.W.kco_keeper (M := M) J hd
  simp only [hplain]
  refine wpAny_bind (L.here ?_)
  have tail : ∀ {t : Sem Value}, wpAny M A t Q E s₁ → wpAny M A (t >>= fun r => holding [r] point >>= fun _ => pure r) Q E s₁ :=
    fun ht => wpAny_bind (wpAny_mono ht (fun r s₂ hr => wpAny_bind (wpAny_holding (wpAny_point (wpAny_pure hr)))) fun _ _ y => y)
  exact tail (wpAny_operateT h2)
end
section
variable {X : Cx} {CX : CXT} {k : Nat} {f C a : Addr} {fd : FuncData} {ps ks : List Str} {sp : Sp} {E : XK} {x : Str} {p pos : Pos} {e : Expr} {es : List Expr} {kws : List Keyword} {tf : TE} {t tk : TA} {dvs : List V} {ds : List Value}
  {g : List Value → List Value → List Value} {gV : List V → List V → List V}
theorem inst_of {pins : List (Addr × Obj)} {σ : L2.St} {H : Hp} {s : Shared} (I : Inv X pins σ H s) {dx : Addr} {fs : List (Str × V)} (ea : H a = some (.ins C dx fs)) : ∃ ox od, PySem.W.InstAt s.heap a ox C od ∧ ox.data = .plain := by
  obtain ⟨mA, O, _, _, _, _⟩ := ins_get I.hok ea
  obtain ⟨od, J, _⟩ := O.look
  exact ⟨_, od, J, rfl⟩
structure CallOf (K : PySem.W.Frag) (C f : Addr) : Prop where
  hs : PySem.W.findIn K (.ref C) "__call__" = some (some (.ref f))
  hf : PySem.W.isFn K (.ref f) = true
  fn : PySem.W.fnIn K f = true
theorem run_own {pins : List (Addr × Obj)} {σ : L2.St} {H : Hp} {s : Shared} {Q : VK} {us : List Value} {vs : List V} (co : CallOf X.K C f) (F : FnOk X.prog X.w X.K X.mg X.base CX k f fd ps sp) (hr : Room k X.A) (hb : Binds X.K fd ps ds) (hd : Vals dvs ds) (hx : Passes CX X E)
    (I : Inv X pins σ H s) {dx : Addr} {fs : List (Str × V)} (ea : H a = some (.ins C dx fs)) (r : Vals vs us) (h : sp (.ref a :: (vs ++ dvs)) H Q E) : wpAny (model X.prog X.w) X.A (call (.ref a) us) (EP X pins σ Q) X.xe s := by
  obtain ⟨ox, od, J, hdt⟩ := inst_of I ea
  have r2 : Vals ((.ref a :: vs) ++ dvs) ((.ref a :: us) ++ ds) := Vals.append (.cons rfl r) hd
  have hl : ((.ref a :: us) ++ ds).length = ps.length := by rw [← r2.length]; exact F.len _ _ _ _ h
  refine wpAny_call (PySem.W.kco_code I.kIn J hdt co.hs co.hf co.fn ?_)
  refine codeAny_mono (F.run X.A X.stack s H ⟨.ref a :: us, []⟩ ((.ref a :: us) ++ ds) ((.ref a :: vs) ++ dvs) Q E hr I.env0 (hb s (.ref a :: us) I.kIn hl) r2 h) fun r s' hq => ?_
  cases r with
  | error e => exact hx pins σ H s e s' I hq
  | ok fl =>
    cases fl with
    | ret u => exact I.after hq
    | next => exact False.elim hq
    | brk => exact False.elim hq
    | cont => exact False.elim hq
theorem run_ownk {pins : List (Addr × Obj)} {σ : L2.St} {H : Hp} {s : Shared} {Q : VK} {us ws : List Value} {vs zs : List V} (co : CallOf X.K C f) (F : FnOk X.prog X.w X.K X.mg X.base CX k f fd ps sp) (hr : Room k X.A) (hb : KBinds X.K fd ps ks g gV) (hx : Passes CX X E)
    (I : Inv X pins σ H s) {dx : Addr} {fs : List (Str × V)} (ea : H a = some (.ins C dx fs)) (r : Vals vs us) (rz : Vals zs ws) (h : sp (gV (.ref a :: vs) zs) H Q E) : wpAny (model X.prog X.w) X.A (call (.ref a) us (ks.zip ws)) (EP X pins σ Q) X.xe s := by
  obtain ⟨ox, od, J, hdt⟩ := inst_of I ea
  have r2 := hb.rel (vs := .ref a :: vs) (us := .ref a :: us) (.cons rfl r) rz
  have hl : (g (.ref a :: us) ws).length = ps.length := by rw [← r2.length]; exact F.len _ _ _ _ h
  refine wpAny_call (PySem.W.kco_code I.kIn J hdt co.hs co.hf co.fn ?_)
  refine codeAny_mono (F.run X.A X.stack s H ⟨.ref a :: us, ks.zip ws⟩ (g (.ref a :: us) ws) (gV (.ref a :: vs) zs) Q E hr I.env0 (hb.to s (.ref a :: us) ws I.kIn hl) r2 h) fun r s' hq => ?_
  cases r with
  | error e => exact hx pins σ H s e s' I hq
  | ok fl =>
    cases fl with
    | ret u => exact I.after hq
    | next => exact False.elim hq
    | brk => exact False.elim hq
    | cont => exact False.elim hq
/-- o(e, ..) by the class's own __call__ -/
def tCallO (C : Addr) (sp : Sp) (dvs : List V) (E : XK) (tf : TE) (t : TA) : TE := fun σ H Q => tf σ H fun x H1 => ∃ a, x = .ref a ∧ t σ H1 fun vs H2 => (∃ dx fs, H2 a = some (.ins C dx fs)) ∧ sp (.ref a :: (vs ++ dvs)) H2 Q E
def tCallOK (C : Addr) (sp : Sp) (gV : List V → List V → List V) (E : XK) (tf : TE) (tk : TA) : TE := fun σ H Q => tf σ H fun x H1 => ∃ a, x = .ref a ∧ tk σ H1 fun zs H2 => (∃ dx fs, H2 a = some (.ins C dx fs)) ∧ sp (gV [.ref a] zs) H2 Q E
theorem pe_callO (hf : PE X (.Name x p) tf) (co : CallOf X.K C f) (F : FnOk X.prog X.w X.K X.mg X.base CX k f fd ps sp) (hr : Room k X.A) (hb : Binds X.K fd ps ds) (hd : Vals dvs ds) (hx : Passes CX X E) (ha : PA X (e :: es) t)
    (he : starEach (e :: es) X.env = (false, eval e X.env) :: starEach es X.env := by rfl) (hpl : (backTo pos (starEach es X.env)).any (·.1) = false := by rfl) : PE X (.Call (.Name x p) (e :: es) [] pos) (tCallO C sp dvs E tf t) := by
  refine ⟨fun pins s σ H Q I h => ?_⟩
  refine wpAny_Call_Name_kw (thn (hf.run pins s σ H _ I h) fun u s1 ⟨c, H1, I1, rc, a, ec, q1⟩ => ?_)
  subst ec
  obtain rfl : u = Value.ref a := rc
  have hh := thn (ha.run pos pins s1 σ H1 _ I1 q1) (Q' := fun vs s₁ => (∃ C ox od, PySem.W.InstAt s₁.heap a ox C od ∧ ox.data = .plain) ∧ wpAny (model X.prog X.w) X.A (call (.ref a) ([] ++ vs)) (EP X pins σ Q) X.xe s₁) fun us s2 ⟨vs, H2, I2, r, ⟨dx, fs, ea⟩, q2⟩ => by
    obtain ⟨ox, od, J, hdt⟩ := inst_of I2 ea
    exact ⟨⟨C, ox, od, J, hdt⟩, run_own co F hr hb hd hx I2 ea r q2⟩
  rw [he] at hh ⊢
  exact callWith_own (by show ((false || (backTo pos (starEach es X.env)).any (·.1)) || false) = false; rw [hpl]; rfl) (evalArgs_plain hh)
theorem pe_callOK0 (hf : PE X (.Name x p) tf) (co : CallOf X.K C f) (F : FnOk X.prog X.w X.K X.mg X.base CX k f fd ps sp) (hr : Room k X.A) (hb : KBinds X.K fd ps ks g gV) (hx : Passes CX X E) (hkw : PK X kws tk)
    (hall : (backToKw pos (keywordEach kws X.env)).all (·.1.isSome) = true := by rfl) (hks : (backToKw pos (keywordEach kws X.env)).filterMap (·.1) = ks := by rfl)
    (hpl : ((backTo pos (starEach [] X.env)).any (·.1) || (backToKw pos (keywordEach kws X.env)).any (·.1.isNone)) = false := by rfl) : PE X (.Call (.Name x p) [] kws pos) (tCallOK C sp gV E tf tk) := by
  refine ⟨fun pins s σ H Q I h => ?_⟩
  refine wpAny_Call_Name_kw (thn (hf.run pins s σ H _ I h) fun u s1 ⟨c, H1, I1, rc, a, ec, q1⟩ => ?_)
  subst ec
  obtain rfl : u = Value.ref a := rc
  have hh := thn (hkw.run pos pins s1 σ H1 _ I1 q1) (Q' := fun ws s₁ => (∃ C ox od, PySem.W.InstAt s₁.heap a ox C od ∧ ox.data = .plain) ∧ wpAny (model X.prog X.w) X.A (call (.ref a) ([] ++ []) (((backToKw pos (keywordEach kws X.env)).filterMap (·.1)).zip ws)) (EP X pins σ Q) X.xe s₁) fun ws s2 ⟨zs, H2, I2, rz, ⟨dx, fs, ea⟩, q2⟩ => by
    obtain ⟨ox, od, J, hdt⟩ := inst_of I2 ea
    refine ⟨⟨C, ox, od, J, hdt⟩, ?_⟩
    rw [hks]
    exact run_ownk (us := []) (vs := []) co F hr hb hx I2 ea .nil rz q2
  exact callWith_own hpl (evalArgs_kw2_nil hall hh)
theorem x_callO {σ : L2.St} {H : Hp} {Q : VK} : tCallO C sp dvs E tf t σ H Q = tf σ H (fun x H1 => ∃ a, x = .ref a ∧ t σ H1 fun vs H2 => (∃ dx fs, H2 a = some (.ins C dx fs)) ∧ sp (.ref a :: (vs ++ dvs)) H2 Q E) := rfl
theorem x_callOK {σ : L2.St} {H : Hp} {Q : VK} : tCallOK C sp gV E tf tk σ H Q = tf σ H (fun x H1 => ∃ a, x = .ref a ∧ tk σ H1 fun zs H2 => (∃ dx fs, H2 a = some (.ins C dx fs)) ∧ sp (gV [.ref a] zs) H2 Q E) := rfl
end
end BC

set_option Elab.async false
set_option linter.all false
set_option maxRecDepth 100000
set_option maxHeartbeats 4000000
/-! a caught exception as a tracked object: in its suite, behind it, and handed to defs -/
namespace BC
open PySem PySem.Spec PyProof.Rows L2
/-- an exception's object: its class, its dict -/
def ExT (cls : Value) (d : Option Addr) (a : Addr) : HO := .ext fun h => ∃ (ob : Obj) (fs : Array Value), h.get? a = some ob ∧ Zc cls d ob ∧ ob.data = .fields fs
theorem exT_ok {P : Program} {w : World} {H : Hp} {h : Heap} {a : Addr} {cls : Value} {d : Option Addr} {ob : Obj} {fs : Array Value} (e : h.get? a = some ob) (z : Zc cls d ob) (f : ob.data = .fields fs) : ObjOk P w H h a (ExT cls d a) := by
  refine ⟨⟨ob, fs, e, z, f⟩, ⟨ob, e⟩, ?_⟩
  rintro h1 h2 ⟨o2, f2, e2, z2, q2⟩ k
  exact ⟨o2, f2, k _ e2, z2, q2⟩
/-- at a stands an exception of this class, without a dict -/
def IsEx (H : Hp) (a : Addr) (cls : Value) : Prop := ∃ φ : Heap → Prop, H a = some (.ext φ) ∧ ∀ h, φ h → ∃ (ob : Obj) (fs : Array Value), h.get? a = some ob ∧ Zc cls none ob ∧ ob.data = .fields fs
theorem isEx_T {H : Hp} {a : Addr} {cls : Value} (h : H a = some (ExT cls none a)) : IsEx H a cls := ⟨_, h, fun _ q => q⟩
theorem isEx_O {H : Hp} {a : Addr} {cls : Value} (h : H a = some (ExO cls a)) : IsEx H a cls := ⟨_, h, fun _ q => by
  obtain ⟨ob, fs, e, z, d, _⟩ := q
  exact ⟨ob, fs, e, z, d⟩⟩
theorem IsEx.at {H H' : Hp} {a : Addr} {cls : Value} (x : IsEx H a cls) (h : ∀ o, H a = some o → H' a = some o) : IsEx H' a cls := by
  obtain ⟨φ, e, q⟩ := x
  exact ⟨φ, h _ e, q⟩
section
variable {X : Cx} {pins : List (Addr × Obj)} {σ : L2.St} {H : Hp} {s : Shared}
/-- an object that stands untracked, younger than the frame, is tracked -/
theorem inv_track {a : Addr} {φ : Heap → Prop} (I : Inv X pins σ H s) (n0 : X.s_0.heap.get? a = none) (na : H a = none) (nL : a ≠ X.env.locals) (nC : ∀ x c, X.env.cells.lookup x = some c → c ≠ a) (nP : ∀ p ∈ X.pn ++ pins, p.1 ≠ a)
    (new : ObjOk X.prog X.w (upd H a (.ext φ)) s.heap a (.ext φ)) : Inv X pins σ (upd H a (.ext φ)) s := by
  have old : ∀ b o, X.s_0.heap.get? b = some o → b ≠ a := by
    rintro b o e rfl
    rw [n0] at e
    cases e
  have trk : ∀ {b : Addr} {o : HO}, H b = some o → b ≠ a := by
    rintro b o e rfl
    rw [na] at e
    cases e
  have frame : upd H a (.ext φ) X.env.locals = none := by rw [upd_ne (Ne.symm nL)]; exact I.free
  have un : Un X.fs X.ex X.H_0 (upd H a (.ext φ)) X.s_0.heap s.heap :=
    { keep := I.base.keep
      slot := I.base.slot
      free := fun b o e n x => by rw [upd_ne (old b o e)]; exact I.base.free b o e n x
      there := I.base.there
      tups := fun b xs e => by have q := I.base.tups b xs e; rw [upd_ne (trk q)]; exact q
      frzs := fun b o xs e => by have q := I.base.frzs b o xs e; rw [upd_ne (trk q)]; exact q
      tbls := fun b ps e => by obtain ⟨m, q⟩ := I.base.tbls b ps e; exact ⟨m, by rw [upd_ne (trk q)]; exact q⟩ }
  have held : HOk X.prog X.w (upd H a (.ext φ)) s.heap := by
    intro b u e
    by_cases q : b = a
    · subst q
      rw [upd_same] at e
      cases e
      exact new
    · rw [upd_ne q] at e
      exact (I.hok b u e).stay (fun _ _ _ z => z) (fun c z => by rw [upd_ne (trk z)]; exact z) fun c xs z => by rw [upd_ne (trk z)]; exact z
  exact { ok := I.ok, os := I.os, bare := I.bare, base := un, loc := I.loc, cell := I.cell, free := frame, hok := held, len := I.len
          freeC := fun x c e => by rw [upd_ne (nC x c e)]; exact I.freeC x c e
          pin := fun p hp => by obtain ⟨h1, h2, h3⟩ := I.pin p hp; exact ⟨h1, by rw [upd_ne (nP p hp)]; exact h2, h3⟩ }
/-- into the suite, the exception tracked -/
theorem inv_intoT (I : Inv X pins σ H s) (a : Addr) : Inv (X.suite a (X.pn ++ pins)) [] σ H s :=
  ⟨I.ok.suite a (X.pn ++ pins), I.os, I.bare, I.base, I.loc, I.cell, I.free, I.freeC, fun p hp => I.pin p (by rwa [List.append_nil] at hp), I.hok, I.len⟩
theorem inv_outT {a : Addr} {pn' : List (Addr × Obj)} (I : Inv (X.suite a (X.pn ++ pins)) pn' σ H s) (ok : X.Ok) : Inv X pins σ H s :=
  ⟨ok, I.os, I.bare, I.base, I.loc, I.cell, I.free, I.freeC, fun p hp => I.pin p (List.mem_append_left _ hp), I.hok, I.len⟩
end
/-- the wish of 'except x as n' where the exception is tracked from then on -/
def wTrk (K : PySem.W.Frag) (c : Value) (i : Nat) (ts : Addr → Value → Option Addr → TS) (Wout : WX) (D : Ends) : WX := fun cls d σ H =>
  ∃ b, PySem.W.exmOne K cls c = some b ∧ (b = true → ∀ a, H a = none → ts a cls d { nx := fun σ' H' => D.nx (σ'.set i none) H', rt := D.rt, bk := fun σ' H' => D.bk (σ'.set i none) H', ct := fun σ' H' => D.ct (σ'.set i none) H' } (σ.set i (some (.ref a))) (upd H a (ExT cls d a))) ∧
    (b = false → Wout cls d σ H)
section
variable {X : Cx} {x n : Str} {c : Value} {i : Nat} {body suite : List Stmt} {b0 : Stmt} {np pos hpos : Pos} {tb : WX → TS} {ts : Addr → Value → Option Addr → TS} {Wout : WX}
theorem ps_try_trk (hs : X.stack = X.env :: X.outer) (hf : X.env.frame = some X.env.locals) (hx : X.ex = []) (hN : X.N.Nodup) (hi : X.N[i]? = some n) (hln : X.env.kindOf n = some .local) (hc : Names X x c) (tk : Takes X Wout)
    (hb : ∀ (W : WX) (pn : List (Addr × Obj)) (xe : Value → Shared → Prop), Takes (X.tr pn xe) W → PassesOwn (model X.prog X.w) X.A X.env xe → PSs (X.tr pn xe) body (tb W))
    (hsu : ∀ (a : Addr) (cls : Value) (d : Option Addr) (pn : List (Addr × Obj)), PSs (X.suite a pn) (b0 :: suite) (ts a cls d)) :
    PS X (.Try body [.ExceptHandler (some (.Name x np)) (some n) (b0 :: suite) hpos] [] [] pos) (fun D σ H => tb (wTrk X.K c i ts Wout D) D σ H) := by
  constructor
  intro pins s σ H D I h
  have ok := I.ok
  have frames : X.A.frames = some (X.env :: X.outer) := hs ▸ ok.frames
  let W0 := wTrk X.K c i ts Wout D
  let after := fun (e : Value) (s1 : Shared) => wpAny (model X.prog X.w) X.A (noteFrame e X.env) (fun _ s2 => wpAny (model X.prog X.w) X.A (setFlight e none) (fun _ s3 =>
    wpAny (model X.prog X.w) X.A (handleBy e X.env [.ExceptHandler (some (.Name x np)) (some n) (b0 :: suite) hpos]) (SP X pins D) X.xe s3) X.xe s2) X.xe s1
  have take : Takes (X.tr (X.pn ++ pins) after) W0 := by
    rintro u s' ⟨a, B, sI, pins1, σ1, H1, cls, d, rfl, J0, nb, up, sky, na, os, ag, b, eb, yes, no⟩
    have J : Inv X pins σ1 H1 sI := J0.ofTry ok
    rw [show (X.tr (X.pn ++ pins) after).stack = X.env :: X.outer from hs] at sky
    refine Sky.land (Z := Zc cls d) Zc.steady frames hf sky fun h3 fly3 up3 => ?_
    have J3 : Inv X pins σ1 H1 { s' with heap := h3 } := J.landed nb fly3.1 (up.trans up3) os ag
    obtain ⟨o3, f3, e3, z3, d3⟩ := fly3.there
    have outside : a ∉ frs (X.env :: X.outer) := by
      intro hm
      obtain ⟨_, o', e', no'⟩ := fly3.2.2.1.mem hm
      rw [e3] at e'
      cases e'
      exact no' _ d3
    have gone : sI.heap.get? a = none := by
      cases q : sI.heap.get? a with
      | none => rfl
      | some o =>
        have z := nb a o q (by rw [show (X.tr (X.pn ++ pins) after).stack = X.env :: X.outer from hs]; exact outside)
        rw [fly3.2.1] at z
        cases z
    have n0 : X.s_0.heap.get? a = none := by
      cases q : X.s_0.heap.get? a with
      | none => rfl
      | some o =>
        obtain ⟨o', z⟩ := J.base.there a o q (by rw [hx]; exact List.not_mem_nil)
        rw [gone] at z
        cases z
    have nL : a ≠ X.env.locals := fun z => outside (List.mem_filterMap.mpr ⟨X.env, List.mem_cons_self, by rw [hf, z]⟩)
    have nF : a ∉ X.fs := by
      intro hm
      obtain ⟨e, he, q⟩ := List.mem_filterMap.mp hm
      exact outside (List.mem_filterMap.mpr ⟨e, List.mem_cons_of_mem _ he, q⟩)
    have nC : ∀ y k, X.env.cells.lookup y = some k → k ≠ a := by
      rintro y k e rfl
      obtain ⟨v, o, z, _⟩ := J.cell y k e
      rw [gone] at z
      cases z
    have nP : ∀ p ∈ X.pn ++ pins, p.1 ≠ a := by
      intro p hp q
      have z := (J.pin p hp).1
      rw [q, gone] at z
      cases z
    have S3 := J3.suite e3 d3 na nL nF
    refine wpAny_handleBy_cons (codeAny_handlers_test ?_) (fun q => nomatch q)
    have LT : PySem.W.Looks (model X.prog X.w) h3 (typeOf (.ref a)) cls := fun A Q E s2 k q => wpAny_typeOf_ref (k _ _ e3) (by rw [z3.1]; exact q)
    have LM := PySem.W.exm_one (M := model X.prog X.w) (J3.kIn) LT eb
    have asked : ∀ {Q : Value → Shared → Prop} {E : Value → Shared → Prop}, Q c { s' with heap := h3 } → wpAny (model X.prog X.w) (X.A.mark (some (.ref a))) (eval (.Name x np) X.env) Q E { s' with heap := h3 } := by
      intro Q E q
      obtain ⟨hg, hdb, hm | ⟨hm, hv, hnn⟩⟩ := hc
      · exact ld_glob (X := X.suite a ((a, o3) :: (X.pn ++ pins))) S3 hg hm q hdb
      · exact ld_blt (X := X.suite a ((a, o3) :: (X.pn ++ pins))) S3 hg hm hv q hnn hdb
    refine asked (LM.here ?_)
    cases b with
    | false =>
      show wpAny _ X.A (handleBy (.ref a) X.env []) _ _ _
      refine wpAny_handleBy_nil ?_
      obtain ⟨_, _, _, ob, vs, T, oT, tt, he, hz, hd, h1, hr⟩ := id fly3
      have fin : wpAny (model X.prog X.w) X.A (setFlight (.ref a) X.env.frame) (fun _ s4 => wpAny (model X.prog X.w) X.A (throw (.ref a) : Sem Flow) (SP X pins D) X.xe s4) X.xe { s' with heap := h3 } := by
        rw [hf]
        refine HandSPX.setFlight_upZ fly3 fun h4 held up4 => wpAny_throw (tk _ _ ?_)
        exact ⟨a, B, sI, pins, σ1, H1, cls, d, rfl, J, by rw [hs]; rw [show (X.tr (X.pn ++ pins) after).stack = X.env :: X.outer from hs] at nb; exact nb, (up.trans up3).trans up4, .inr (.inr (by rw [hs]; exact held)), na, os, ag, no rfl⟩
      unfold PySem.passOn
      refine wpAny_bind (wpAny_field he hd h1 ?_)
      rw [if_neg (by simp : ¬ ((Value.ref T == Value.none) = true))]
      first
        | exact wpAny_bind fin
        | exact wpAny_bind (wpAny_pure (wpAny_bind fin))
    | true =>
      refine codeAny_handlers_suite_as ?_
      refine HandSPX.lands_againZ fly3 fun h4 fly4 up4 => ?_
      have J4 : Inv X pins σ1 H1 { s' with heap := h4 } := J.landed nb fly4.1 ((up.trans up3).trans up4) os ag
      obtain ⟨o4, f4, e4, z4, d4⟩ := fly4.there
      have T4 : Inv X pins σ1 (upd H1 a (ExT cls d a)) { s' with heap := h4 } := inv_track J4 n0 na nL nC nP (exT_ok e4 z4 d4)
      refine store_ok (X := X.suite a (X.pn ++ pins)) (v := .ref a) (inv_intoT T4 a) hN hi (.inl hln) rfl (fun s5 S5 => ?_) (.inr hln)
      refine wpAny_mono ((hsu a cls d (X.pn ++ pins)).run [] s5 _ _ _ S5 (yes rfl a na)) (fun fl s6 res => ?_) fun _ _ z => z.elim
      have close : ∀ {σ6 : L2.St} {H6 : Hp} {Q : Shared → Prop}, Inv (X.suite a (X.pn ++ pins)) [] σ6 H6 s6 → (∀ s7, Inv X pins (σ6.set i none) H6 s7 → Q s7) →
          wpAny (model X.prog X.w) X.A (do bindName X.env n .none; unbindBehindTheSuite X.env n hpos) (fun _ s7 => Q s7) X.xe s6 := fun S6 q => gone_ok (inv_outT S6 ok) hN hi hln q
      match fl, res with
      | .next, res =>
        obtain ⟨σ6, H6, S6, q6⟩ := res
        exact close S6 fun s7 J7 => ⟨_, _, J7, q6⟩
      | .brk, res =>
        obtain ⟨σ6, H6, S6, q6⟩ := res
        exact close S6 fun s7 J7 => ⟨_, _, J7, q6⟩
      | .cont, res =>
        obtain ⟨σ6, H6, S6, q6⟩ := res
        exact close S6 fun s7 J7 => ⟨_, _, J7, q6⟩
      | .ret u, res =>
        obtain ⟨v6, σ6, H6, S6, r6, q6⟩ := res
        exact close S6 fun s7 J7 => ⟨_, _, _, J7, r6, q6⟩
  refine wpAny_Try_except (wpAny_mono ((hb W0 (X.pn ++ pins) after take PassesOwn.looking).run [] s σ H D (I.toTry _) h) (fun fl s1 res => ?_) fun e s1 he => he)
  match fl, res with
  | .next, res =>
    obtain ⟨σ2, H2, J2, q⟩ := res
    exact wpAny_execs_nil ⟨σ2, H2, J2.ofTry ok, q⟩
  | .brk, res =>
    obtain ⟨σ2, H2, J2, q⟩ := res
    exact ⟨σ2, H2, J2.ofTry ok, q⟩
  | .cont, res =>
    obtain ⟨σ2, H2, J2, q⟩ := res
    exact ⟨σ2, H2, J2.ofTry ok, q⟩
  | .ret u, res =>
    obtain ⟨v, σ2, H2, J2, r, q⟩ := res
    exact ⟨v, σ2, H2, J2.ofTry ok, r, q⟩
end
/-! ### isinstance of a tracked exception -/
/-- isinstance(e, C) -/
def rIsX (K : PySem.W.Frag) : List V → Hp → VK → Prop := fun xs H Q => ∃ (a D : Addr) (c : V) (cv : Value) (b : Bool), xs = [.ref a, c] ∧ IsEx H a (.ref D) ∧ ExcC K D ∧ ClsV c cv ∧ PySem.W.kitOne K (.ref D) cv = some b ∧ Q (.bl b) H
/-- isinstance(e, (C1, C2, ..)) -/
def rIsXT (K : PySem.W.Frag) : List V → Hp → VK → Prop := fun xs H Q => ∃ (a D tp : Addr) (cs : List V) (us : List Value) (b : Bool), xs = [.ref a, .ref tp] ∧ IsEx H a (.ref D) ∧ ExcC K D ∧ H tp = some (.tup cs) ∧ Paired ClsV cs us ∧ PySem.W.kitAny K (.ref D) us = some b ∧ Q (.bl b) H
section
variable {X : Cx} {K : PySem.W.Frag}
theorem isx_at {pins : List (Addr × Obj)} {σ : L2.St} {H : Hp} {s : Shared} {a D : Addr} (I : Inv X pins σ H s) (x : IsEx H a (.ref D)) : ∃ ob, PySem.W.InstAt s.heap a ob D none := by
  obtain ⟨φ, e, q⟩ := x
  obtain ⟨ob, fs, e1, ⟨z1, z2⟩, d1⟩ := q _ (I.hok a _ e).1
  obtain ⟨oc, od, dt, sl⟩ := ob
  dsimp only at z1 z2 d1
  subst z1 z2 d1
  exact ⟨_, e1, rfl, rfl, trivial⟩
theorem k_isX (hK : X.K = K) : CallR X (.builtin "isinstance") (rIsX K) := by
  subst hK
  intro pins s σ H xs us Q I r h
  obtain ⟨a, D, c, cv, b, rfl, x, C, k, e, q⟩ := h
  obtain ⟨u1, u2, rfl, r1, r2⟩ := vals2 r
  obtain rfl : u1 = Value.ref a := r1
  obtain rfl := k.eq r2
  obtain ⟨ob, J⟩ := isx_at I x
  exact PySem.W.kia_one (PySem.W.handS_kitx_exc C.hg C.hk C.hs C.hd C.ha C.hn C.ht C.hm) I.kIn J e (fun z => nomatch z) fun tk => ⟨.bl b, H, I.tok tk, rfl, q⟩
theorem k_isXT (hK : X.K = K) : CallR X (.builtin "isinstance") (rIsXT K) := by
  subst hK
  intro pins s σ H xs us Q I r h
  obtain ⟨a, D, tp, cs, ws, b, rfl, x, C, hT, k, e, q⟩ := h
  obtain ⟨u1, u2, rfl, r1, r2⟩ := vals2 r
  obtain rfl : u1 = Value.ref a := r1
  obtain rfl : u2 = Value.ref tp := r2
  obtain ⟨ob, J⟩ := isx_at I x
  obtain ⟨_, its, rv, o, h1, h2, m, h3⟩ := (I.hok tp _ hT : ObjOk X.prog X.w H s.heap tp (.tup cs))
  obtain rfl := ClsV.all k rv
  obtain ⟨oc, od, dt, sl⟩ := o
  dsimp only at h2 h3
  subst h2 h3
  exact PySem.W.kia_tup (PySem.W.handS_kitx_exc C.hg C.hk C.hs C.hd C.ha C.hn C.ht C.hm) I.kIn J h1 e (fun z => nomatch z) fun tk => ⟨.bl b, H, I.tok tk, rfl, q⟩
end
/-! ### defs that may be called while an exception is handled -/
structure FnU (P : Program) (w : World) (K : PySem.W.Frag) (mg : Str → Option Value) (base : Heap) (k : Nat) (f : Addr) (fd : FuncData) (ps : List Str) (sp : Sp) : Prop where
  size : ∀ vs H Q E, sp vs H Q E → vs.length = ps.length
  go : ∀ (A : Around) (outer : List Env) (s : Shared) (H : Hp) (args : Args) (us : List Value) (vs : List V) (Q : VK) (E : XK), L2H.RoomH k A → Env0 P w K mg base A outer s H →
    BindsTo s fd args (ps.zip us) → Vals vs us → sp vs H Q E → codeAny (model P w) A (.call (.ref f) args) (CR CX0 outer P w H s Q E) s
/-- the context of such a def's body -/
def cxU (P : Program) (w : World) (K : PySem.W.Frag) (mg : Str → Option Value) (base : Heap) (N : List Str) (qual : Str) (scope : Scope) (f : Addr) (cd : Value) (A : Around) (outer : List Env) (s : Shared) (H : Hp) (E : XK) : Cx :=
  { cxOf CX0 P w K mg base N qual scope f cd A outer s H E with calm := false }
section
variable {P : Program} {w : World} {K : PySem.W.Frag} {mg : Str → Option Value} {base : Heap} {k : Nat} {f : Addr} {fd : FuncData} {ps : List Str} {sp : Sp}
theorem fun_okU {x qual : Str} {st : Stmt} {N : List Str} (F : Fun K x qual st f fd) (S : FnScope N ps (defScope st)) (size : ∀ vs H Q E, sp vs H Q E → vs.length = ps.length)
    (body : ∀ (cdv : Value) (A : Around) (outer : List Env) (s : Shared) (H : Hp) (vs : List V) (Q : VK) (E : XK), L2H.RoomH k (A.deeper (envOfC qual (defScope st) s.heap.objs.size f cdv)) → sp vs H Q E →
      ∃ t, PSs (cxU P w K mg base N qual (defScope st) f cdv A outer s H E) (defBody st) t ∧ t { nx := fun _ H' => Q .non H', rt := Q } (start N vs) H) : FnU P w K mg base (k + 1) f fd ps sp := by
  obtain ⟨oc, od, kV, doc, pm, an, cdv, ct, osl, rfl, lk, hcd⟩ := F.ex
  refine ⟨size, fun A outer s H args us vs Q E room env bind vals prom => ?_⟩
  have inK : K.In s.heap := env.mod.kin.keeps fun b o q => (env.bs b o q).1
  have loose : s.heap.NoLimit := env.mod.nolimit.keeps fun b o q => (env.bs b o q).1
  have kinds : ∀ z ∈ ps.zip us, (defScope st).names.lookup z.1 = some .local ∨ ((defScope st).names.lookup z.1 = some .cell ∧ ((cellsFrom (s.heap.objs.size + 1) (defScope st).names []).lookup z.1).isSome = true) := by
    rintro ⟨n, v⟩ hz
    have hn := (List.of_mem_zip hz).1
    rcases S.par n hn with h | h
    · exact Or.inl h
    · exact Or.inr ⟨h, PySem.W.cellsFrom_some _ _ _ (Or.inl h)⟩
  refine codeAny_call_function room.depth (inK _ _ lk) rfl S.co S.gen rfl (PySem.W.codeRec_of inK hcd) (bind _ _ _ _ ?_)
  refine wpAny_newFunctionEnv_cells S.kind kinds fun env' e1 s1 into => ?_
  subst e1
  refine ⟨loose.keeps into.toInCall.keep, codeAny_func ?_⟩
  obtain ⟨t, deriv, read⟩ := body cdv A outer s H vs Q E (room.deeper _) prom
  have env1 : Env0 P w K mg base { A with handled := none } outer s H := ⟨env.frames, env.mod, env.bs, env.bsz, env.funs, env.frf, env.hok, env.bare⟩
  have I0 := inv_start (CX := CX0) (E := E) (A := { A with handled := none }) S rfl env1 (size _ _ _ _ prom) vals into
  have I : Inv (cxU P w K mg base N qual (defScope st) f cdv A outer s H E) [] (start N vs) H s1 :=
    ⟨⟨I0.ok.mod, I0.ok.kind, I0.ok.glob, I0.ok.blt, I0.ok.above, I0.ok.inj, I0.ok.has, I0.ok.cab, (fun z => absurd (show false = true from z) Bool.false_ne_true), I0.ok.frames, I0.ok.stk, I0.ok.exf, I0.ok.bs, I0.ok.bsz, I0.ok.noex, I0.ok.exfs, I0.ok.funs, I0.ok.frf⟩,
      I0.os, I0.bare, I0.base, I0.loc, I0.cell, I0.free, I0.freeC, I0.pin, I0.hok, I0.len⟩
  refine wpAny_mono (deriv.run [] s1 (start N vs) H _ I read) (fun flow s' ends => ?_) fun _ _ q => q
  have done : ∀ {σ2 : L2.St} {H2 : Hp} {v : V} {u : Value}, Inv (cxU P w K mg base N qual (defScope st) f cdv A outer s H E) [] σ2 H2 s' → RelV v u → Q v H2 → CE outer P w H s Q u s' := by
    intro σ2 H2 v u J rel q
    exact ⟨v, H2, J.os, J.bare, J.base, J.hok, rel, q⟩
  match flow, ends with
  | .ret u, ends =>
    obtain ⟨v, σ2, H2, J, rel, q⟩ := ends
    exact done J rel q
  | .next, ends =>
    obtain ⟨σ2, H2, J, q⟩ := ends
    exact done (v := V.non) (u := Value.none) J rfl q
  | .brk, ends =>
    obtain ⟨_, _, _, q⟩ := ends
    exact q.elim
  | .cont, ends =>
    obtain ⟨_, _, _, q⟩ := ends
    exact q.elim
end
section
variable {X : Cx} {k : Nat} {f : Addr} {fd : FuncData} {ps : List Str} {sp : Sp} {E : XK} {x : Str} {p pos : Pos} {e : Expr} {es : List Expr} {t : TA}
theorem pe_callU (F : FnU X.prog X.w X.K X.mg X.base k f fd ps sp) (hr : L2H.RoomH k X.A) (hg : Gl X x) (hm : X.mg x = some (.ref f)) (hk : PySem.W.keepIn X.K (.ref f) = true) (hb : Binds X.K fd ps []) (hx : Passes CX0 X E)
    (ha : PA X (e :: es) t) (hdb : (x == ("__debug__" : Str)) = false := by decide) (he : starEach (e :: es) X.env = (false, eval e X.env) :: starEach es X.env := by rfl) (hpl : (backTo pos (starEach es X.env)).any (·.1) = false := by rfl) :
    PE X (.Call (.Name x p) (e :: es) [] pos) (tCall sp [] E t) := by
  constructor
  intro pins s σ H Q I h
  have args := ha.run pos pins s σ H _ I h
  refine wpAny_Call_Name_kw (ld_glob I hg hm (PySem.W.callWith_K (h₀ := X.base) I.ok.mod.kin hk (thn args ?_) he hpl) hdb)
  rintro us s1 ⟨vs, H1, I1, r, q⟩
  rw [List.append_nil] at q
  refine ⟨I1.kIn, ?_⟩
  have many : (us ++ []).length = ps.length := by rw [List.append_nil]; exact r.length.symm.trans (F.size _ _ _ _ q)
  have bs := hb s1 us I1.kIn many
  rw [List.append_nil] at bs
  have run := F.go X.A X.stack s1 H1 ⟨us, []⟩ us vs Q E hr I1.env0 bs r q
  refine wpAny_call (codeAny_mono run fun res s' z => ?_)
  match res, z with
  | .error err, z => exact hx pins σ H1 s1 err s' I1 z
  | .ok (.ret u), z => exact I1.after z
end
end BC
namespace BC
open PySem PySem.Spec PyProof.Rows L2
theorem roomM {k : Nat} {A : Around} {v : Option Value} (r : L2H.RoomH k A) : L2H.RoomH k (A.mark v) := ⟨r.dp, r.un⟩
/-- own classes ahead of ValueError's -/
def MroIs (K : PySem.W.Frag) (C : Addr) (l : List Addr) : Prop := ∃ cd, PySem.W.clsIn K C = some cd ∧ cd.mro = l.map Value.ref ++ HandSPX.veTail
theorem own_has {l : List Addr} {D : Addr} : (l.map Value.ref ++ HandSPX.veTail).contains (.ref D) = decide (D ∈ l) := by
  induction l with
  | nil => rfl
  | cons a l ih =>
    rw [List.map_cons, List.cons_append, List.contains_cons, ih]
    by_cases e : D = a
    · subst e; simp
    · have : (Value.ref D == Value.ref a) = false := by simpa using e
      rw [this, Bool.false_or]
      simp [e]
theorem mro_sub {K : PySem.W.Frag} {C : Addr} {l : List Addr} (m : MroIs K C l) (v : Value) : PySem.W.subIn K (.ref C) v = some ((l.map Value.ref ++ HandSPX.veTail).contains v) := by
  obtain ⟨cd, h1, h2⟩ := m
  show PySem.W.mroIn K C v = _
  unfold PySem.W.mroIn
  rw [h1]
  show (if cd.mro.isEmpty = true then none else some (cd.mro.contains v)) = _
  rw [h2, if_neg (by cases l <;> simp [HandSPX.veTail])]
/-- isinstance of own exceptions, among each other -/
theorem kit_own {K : PySem.W.Frag} {C D : Addr} {l l2 : List Addr} (m : MroIs K C l) (m2 : MroIs K D l2) (t : PySem.W.typeIn K (.ref D) = some (.type "type")) (hC : C ∈ l) : PySem.W.kitOne K (.ref C) (.ref D) = some (decide (D ∈ l)) := by
  unfold PySem.W.kitOne
  by_cases e : C = D
  · subst e
    rw [if_pos (by simp), decide_eq_true hC]
  · have : (Value.ref C == Value.ref D) = false := by simpa using e
    rw [this, if_neg Bool.false_ne_true]
    obtain ⟨cd2, k1, _⟩ := id m2
    show (if ((PySem.W.clsIn K D).isSome && PySem.W.typeIn K (.ref D) == some (.type "type")) = true then PySem.W.subIn K (.ref C) (.ref D) else none) = _
    rw [k1, t, if_pos (by rfl), mro_sub m, own_has]
theorem kit_ve {K : PySem.W.Frag} {C : Addr} {l : List Addr} (m : MroIs K C l) : PySem.W.kitOne K (.ref C) (.type "ValueError") = some true := by
  unfold PySem.W.kitOne
  rw [if_neg (by simp)]
  show (if PySem.W.kitMeta "ValueError" = true then PySem.W.subIn K (.ref C) (.type "ValueError") else none) = _
  rw [if_pos (by decide +kernel), mro_sub m]
  congr 1
  clear m
  induction l with
  | nil => rfl
  | cons a l ih => rw [List.map_cons, List.cons_append, List.contains_cons, ih, Bool.or_true]
/-- an own class in an except clause -/
theorem exm_own {K : PySem.W.Frag} {C D : Addr} {l : List Addr} (m : MroIs K C l) (e : ExcC K D) (t : PySem.W.typeIn K (.ref D) = some (.type "type")) : PySem.W.exmOne K (.ref C) (.ref D) = some (decide (D ∈ l)) :=
  PySem.W.exm_ref e.hs e.hd t (by rw [mro_sub m, own_has])
theorem exm_yes {K : PySem.W.Frag} {C D : Addr} {l : List Addr} (m : MroIs K C l) (e : ExcC K D) (t : PySem.W.typeIn K (.ref D) = some (.type "type")) (h : D ∈ l) : PySem.W.exmOne K (.ref C) (.ref D) = some true := by rw [exm_own m e t, decide_eq_true h]
theorem kitAny_cons' {K : PySem.W.Frag} {t c : Value} {cs : List Value} {b r : Bool} (h : PySem.W.kitOne K t c = some b) (hr : PySem.W.kitAny K t cs = some r) : PySem.W.kitAny K t (c :: cs) = some (b || r) := by
  unfold PySem.W.kitAny
  rw [h]
  cases b with
  | true => rfl
  | false => rw [Bool.false_or]; exact hr
section
variable {σ : L2.St} {H : Hp} {Q : VK} {t : TA} {sp : Sp} {E : L2.St → XK}
theorem x_callS : tCallS sp E t σ H Q = t σ H fun vs H1 => sp vs H1 Q (E σ) := rfl
end
end BC

set_option Elab.async false
set_option linter.all false
set_option maxRecDepth 100000
set_option maxHeartbeats 4000000
/-! a caught exception whose context is None, tracked; defs called in its suite that know it; comprehensions there -/
namespace BC
open PySem PySem.Spec PyProof.Rows L2
/-- an exception's object: its class, its dict; its context is None -/
def ExTN (cls : Value) (d : Option Addr) (a : Addr) : HO := .ext fun h => ∃ (ob : Obj) (fs : Array Value), h.get? a = some ob ∧ L2N.Zn cls d ob ∧ ob.data = .fields fs
theorem exTN_ok {P : Program} {w : World} {H : Hp} {h : Heap} {a : Addr} {cls : Value} {d : Option Addr} {ob : Obj} {fs : Array Value} (e : h.get? a = some ob) (z : L2N.Zn cls d ob) (f : ob.data = .fields fs) : ObjOk P w H h a (ExTN cls d a) := by
  refine ⟨⟨ob, fs, e, z, f⟩, ⟨ob, e⟩, ?_⟩
  rintro h1 h2 ⟨o2, f2, e2, z2, q2⟩ k
  exact ⟨o2, f2, k _ e2, z2, q2⟩
def IsExN (H : Hp) (a : Addr) (cls : Value) : Prop := ∃ φ : Heap → Prop, H a = some (.ext φ) ∧ ∀ h, φ h → ∃ (ob : Obj) (fs : Array Value), h.get? a = some ob ∧ L2N.Zn cls none ob ∧ ob.data = .fields fs
theorem isExN_T {H : Hp} {a : Addr} {cls : Value} (h : H a = some (ExTN cls none a)) : IsExN H a cls := ⟨_, h, fun _ q => q⟩
theorem IsExN.at {H H' : Hp} {a : Addr} {cls : Value} (x : IsExN H a cls) (h : ∀ o, H a = some o → H' a = some o) : IsExN H' a cls := by
  obtain ⟨φ, e, q⟩ := x
  exact ⟨φ, h _ e, q⟩
theorem IsExN.ex {H : Hp} {a : Addr} {cls : Value} (x : IsExN H a cls) : IsEx H a cls := by
  obtain ⟨φ, e, q⟩ := x
  refine ⟨φ, e, fun h p => ?_⟩
  obtain ⟨ob, fs, g, z, d⟩ := q h p
  exact ⟨ob, fs, g, ⟨z.1, z.2.1⟩, d⟩
theorem IsExN.hot {X : Cx} {pins : List (Addr × Obj)} {σ : L2.St} {H : Hp} {s : Shared} {a : Addr} {cls : Value} (x : IsExN H a cls) (I : Inv X pins σ H s) (hh : X.A.handled = some (.ref a)) : HotX.HotAt X.A a s.heap := by
  obtain ⟨φ, e, q⟩ := x
  obtain ⟨ob, fs, g, z, d⟩ := q _ (I.hok a _ e).1
  exact ⟨hh, ob, fs, g, d, z.2.2 fs d⟩
/-- the wish of 'except x as n' where the exception is tracked from then on -/
def wTrkN (K : PySem.W.Frag) (c : Value) (i : Nat) (ts : Addr → Value → Option Addr → TS) (Wout : WX) (D : Ends) : WX := fun cls d σ H =>
  ∃ b, PySem.W.exmOne K cls c = some b ∧ (b = true → ∀ a, H a = none → ts a cls d { nx := fun σ' H' => D.nx (σ'.set i none) H', rt := D.rt, bk := fun σ' H' => D.bk (σ'.set i none) H', ct := fun σ' H' => D.ct (σ'.set i none) H' } (σ.set i (some (.ref a))) (upd H a (ExTN cls d a))) ∧
    (b = false → Wout cls d σ H)
section
variable {X : Cx} {x n : Str} {c : Value} {i : Nat} {body suite : List Stmt} {b0 : Stmt} {np pos hpos : Pos} {tb : WX → TS} {ts : Addr → Value → Option Addr → TS} {Wout : WX}
theorem ps_try_trkN (hs : X.stack = X.env :: X.outer) (hf : X.env.frame = some X.env.locals) (hx : X.ex = []) (hN : X.N.Nodup) (hi : X.N[i]? = some n) (hln : X.env.kindOf n = some .local) (hc : Names X x c) (tk : L2N.Takes X Wout)
    (hb : ∀ (W : WX) (pn : List (Addr × Obj)) (xe : Value → Shared → Prop), L2N.Takes (X.tr pn xe) W → PassesOwn (model X.prog X.w) X.A X.env xe → PSs (X.tr pn xe) body (tb W))
    (hsu : ∀ (a : Addr) (cls : Value) (d : Option Addr) (pn : List (Addr × Obj)), PSs (X.suite a pn) (b0 :: suite) (ts a cls d)) :
    PS X (.Try body [.ExceptHandler (some (.Name x np)) (some n) (b0 :: suite) hpos] [] [] pos) (fun D σ H => tb (wTrkN X.K c i ts Wout D) D σ H) := by
  constructor
  intro pins s σ H D I h
  have ok := I.ok
  have frames : X.A.frames = some (X.env :: X.outer) := hs ▸ ok.frames
  let W0 := wTrkN X.K c i ts Wout D
  let after := fun (e : Value) (s1 : Shared) => wpAny (model X.prog X.w) X.A (noteFrame e X.env) (fun _ s2 => wpAny (model X.prog X.w) X.A (setFlight e none) (fun _ s3 =>
    wpAny (model X.prog X.w) X.A (handleBy e X.env [.ExceptHandler (some (.Name x np)) (some n) (b0 :: suite) hpos]) (SP X pins D) X.xe s3) X.xe s2) X.xe s1
  have take : L2N.Takes (X.tr (X.pn ++ pins) after) W0 := by
    rintro u s' ⟨a, B, sI, pins1, σ1, H1, cls, d, rfl, J0, nb, up, sky, na, os, ag, b, eb, yes, no⟩
    have J : Inv X pins σ1 H1 sI := J0.ofTry ok
    rw [show (X.tr (X.pn ++ pins) after).stack = X.env :: X.outer from hs] at sky
    refine L2N.Sky.land (Z := L2N.Zn cls d) L2N.Zn.steady frames hf sky fun h3 fly3 up3 => ?_
    have J3 : Inv X pins σ1 H1 { s' with heap := h3 } := J.landed nb fly3.1 (up.trans up3) os ag
    obtain ⟨o3, f3, e3, z3, d3⟩ := fly3.there
    have outside : a ∉ frs (X.env :: X.outer) := by
      intro hm
      obtain ⟨_, o', e', no'⟩ := fly3.2.2.1.mem hm
      rw [e3] at e'
      cases e'
      exact no' _ d3
    have gone : sI.heap.get? a = none := by
      cases q : sI.heap.get? a with
      | none => rfl
      | some o =>
        have z := nb a o q (by rw [show (X.tr (X.pn ++ pins) after).stack = X.env :: X.outer from hs]; exact outside)
        rw [fly3.2.1] at z
        cases z
    have n0 : X.s_0.heap.get? a = none := by
      cases q : X.s_0.heap.get? a with
      | none => rfl
      | some o =>
        obtain ⟨o', z⟩ := J.base.there a o q (by rw [hx]; exact List.not_mem_nil)
        rw [gone] at z
        cases z
    have nL : a ≠ X.env.locals := fun z => outside (List.mem_filterMap.mpr ⟨X.env, List.mem_cons_self, by rw [hf, z]⟩)
    have nF : a ∉ X.fs := by
      intro hm
      obtain ⟨e, he, q⟩ := List.mem_filterMap.mp hm
      exact outside (List.mem_filterMap.mpr ⟨e, List.mem_cons_of_mem _ he, q⟩)
    have nC : ∀ y k, X.env.cells.lookup y = some k → k ≠ a := by
      rintro y k e rfl
      obtain ⟨v, o, z, _⟩ := J.cell y k e
      rw [gone] at z
      cases z
    have nP : ∀ p ∈ X.pn ++ pins, p.1 ≠ a := by
      intro p hp q
      have z := (J.pin p hp).1
      rw [q, gone] at z
      cases z
    have S3 := J3.suite e3 d3 na nL nF
    refine wpAny_handleBy_cons (codeAny_handlers_test ?_) (fun q => nomatch q)
    have LT : PySem.W.Looks (model X.prog X.w) h3 (typeOf (.ref a)) cls := fun A Q E s2 k q => wpAny_typeOf_ref (k _ _ e3) (by rw [z3.1]; exact q)
    have LM := PySem.W.exm_one (M := model X.prog X.w) (J3.kIn) LT eb
    have asked : ∀ {Q : Value → Shared → Prop} {E : Value → Shared → Prop}, Q c { s' with heap := h3 } → wpAny (model X.prog X.w) (X.A.mark (some (.ref a))) (eval (.Name x np) X.env) Q E { s' with heap := h3 } := by
      intro Q E q
      obtain ⟨hg, hdb, hm | ⟨hm, hv, hnn⟩⟩ := hc
      · exact ld_glob (X := X.suite a ((a, o3) :: (X.pn ++ pins))) S3 hg hm q hdb
      · exact ld_blt (X := X.suite a ((a, o3) :: (X.pn ++ pins))) S3 hg hm hv q hnn hdb
    refine asked (LM.here ?_)
    cases b with
    | false =>
      show wpAny _ X.A (handleBy (.ref a) X.env []) _ _ _
      refine wpAny_handleBy_nil ?_
      obtain ⟨_, _, _, ob, vs, T, oT, tt, he, hz, hd, h1, hr⟩ := id fly3
      have fin : wpAny (model X.prog X.w) X.A (setFlight (.ref a) X.env.frame) (fun _ s4 => wpAny (model X.prog X.w) X.A (throw (.ref a) : Sem Flow) (SP X pins D) X.xe s4) X.xe { s' with heap := h3 } := by
        rw [hf]
        refine HandSPX.setFlight_upZ fly3 fun h4 held up4 => wpAny_throw (tk _ _ ?_)
        exact ⟨a, B, sI, pins, σ1, H1, cls, d, rfl, J, by rw [hs]; rw [show (X.tr (X.pn ++ pins) after).stack = X.env :: X.outer from hs] at nb; exact nb, (up.trans up3).trans up4, .inr (.inr (by rw [hs]; exact held)), na, os, ag, no rfl⟩
      unfold PySem.passOn
      refine wpAny_bind (wpAny_field he hd h1 ?_)
      rw [if_neg (by simp : ¬ ((Value.ref T == Value.none) = true))]
      first
        | exact wpAny_bind fin
        | exact wpAny_bind (wpAny_pure (wpAny_bind fin))
    | true =>
      refine codeAny_handlers_suite_as ?_
      refine HandSPX.lands_againZ fly3 fun h4 fly4 up4 => ?_
      have J4 : Inv X pins σ1 H1 { s' with heap := h4 } := J.landed nb fly4.1 ((up.trans up3).trans up4) os ag
      obtain ⟨o4, f4, e4, z4, d4⟩ := fly4.there
      have T4 : Inv X pins σ1 (upd H1 a (ExTN cls d a)) { s' with heap := h4 } := inv_track J4 n0 na nL nC nP (exTN_ok e4 z4 d4)
      refine store_ok (X := X.suite a (X.pn ++ pins)) (v := .ref a) (inv_intoT T4 a) hN hi (.inl hln) rfl (fun s5 S5 => ?_) (.inr hln)
      refine wpAny_mono ((hsu a cls d (X.pn ++ pins)).run [] s5 _ _ _ S5 (yes rfl a na)) (fun fl s6 res => ?_) fun _ _ z => z.elim
      have close : ∀ {σ6 : L2.St} {H6 : Hp} {Q : Shared → Prop}, Inv (X.suite a (X.pn ++ pins)) [] σ6 H6 s6 → (∀ s7, Inv X pins (σ6.set i none) H6 s7 → Q s7) →
          wpAny (model X.prog X.w) X.A (do bindName X.env n .none; unbindBehindTheSuite X.env n hpos) (fun _ s7 => Q s7) X.xe s6 := fun S6 q => gone_ok (inv_outT S6 ok) hN hi hln q
      match fl, res with
      | .next, res =>
        obtain ⟨σ6, H6, S6, q6⟩ := res
        exact close S6 fun s7 J7 => ⟨_, _, J7, q6⟩
      | .brk, res =>
        obtain ⟨σ6, H6, S6, q6⟩ := res
        exact close S6 fun s7 J7 => ⟨_, _, J7, q6⟩
      | .cont, res =>
        obtain ⟨σ6, H6, S6, q6⟩ := res
        exact close S6 fun s7 J7 => ⟨_, _, J7, q6⟩
      | .ret u, res =>
        obtain ⟨v6, σ6, H6, S6, r6, q6⟩ := res
        exact close S6 fun s7 J7 => ⟨_, _, _, J7, r6, q6⟩
  refine wpAny_Try_except (wpAny_mono ((hb W0 (X.pn ++ pins) after take PassesOwn.looking).run [] s σ H D (I.toTry _) h) (fun fl s1 res => ?_) fun e s1 he => he)
  match fl, res with
  | .next, res =>
    obtain ⟨σ2, H2, J2, q⟩ := res
    exact wpAny_execs_nil ⟨σ2, H2, J2.ofTry ok, q⟩
  | .brk, res =>
    obtain ⟨σ2, H2, J2, q⟩ := res
    exact ⟨σ2, H2, J2.ofTry ok, q⟩
  | .cont, res =>
    obtain ⟨σ2, H2, J2, q⟩ := res
    exact ⟨σ2, H2, J2.ofTry ok, q⟩
  | .ret u, res =>
    obtain ⟨v, σ2, H2, J2, r, q⟩ := res
    exact ⟨v, σ2, H2, J2.ofTry ok, r, q⟩
end
/-! ### defs whose first argument is the exception that is handled -/
structure FnV (P : Program) (w : World) (K : PySem.W.Frag) (mg : Str → Option Value) (base : Heap) (k : Nat) (f : Addr) (fd : FuncData) (ps : List Str) (sp : Sp) : Prop where
  size : ∀ vs H Q E, sp vs H Q E → vs.length = ps.length
  go : ∀ (xa : Addr) (A : Around) (outer : List Env) (s : Shared) (H : Hp) (args : Args) (us : List Value) (vs : List V) (Q : VK) (E : XK), A.handled = some (.ref xa) → vs[0]? = some (.ref xa) → L2H.RoomH k A → Env0 P w K mg base A outer s H →
    BindsTo s fd args (ps.zip us) → Vals vs us → sp vs H Q E → codeAny (model P w) A (.call (.ref f) args) (CR CX0 outer P w H s Q E) s
section
variable {P : Program} {w : World} {K : PySem.W.Frag} {mg : Str → Option Value} {base : Heap} {k : Nat} {f : Addr} {fd : FuncData} {ps : List Str} {sp : Sp}
theorem fun_okV {x qual : Str} {st : Stmt} {N : List Str} (F : Fun K x qual st f fd) (S : FnScope N ps (defScope st)) (size : ∀ vs H Q E, sp vs H Q E → vs.length = ps.length)
    (body : ∀ (xa : Addr) (cdv : Value) (A : Around) (outer : List Env) (s : Shared) (H : Hp) (vs : List V) (Q : VK) (E : XK), A.handled = some (.ref xa) → vs[0]? = some (.ref xa) → L2H.RoomH k (A.deeper (envOfC qual (defScope st) s.heap.objs.size f cdv)) → sp vs H Q E →
      ∃ t, PSs (cxU P w K mg base N qual (defScope st) f cdv A outer s H E) (defBody st) t ∧ t { nx := fun _ H' => Q .non H', rt := Q } (start N vs) H) : FnV P w K mg base (k + 1) f fd ps sp := by
  obtain ⟨oc, od, kV, doc, pm, an, cdv, ct, osl, rfl, lk, hcd⟩ := F.ex
  refine ⟨size, fun xa A outer s H args us vs Q E hh hv room env bind vals prom => ?_⟩
  have inK : K.In s.heap := env.mod.kin.keeps fun b o q => (env.bs b o q).1
  have loose : s.heap.NoLimit := env.mod.nolimit.keeps fun b o q => (env.bs b o q).1
  have kinds : ∀ z ∈ ps.zip us, (defScope st).names.lookup z.1 = some .local ∨ ((defScope st).names.lookup z.1 = some .cell ∧ ((cellsFrom (s.heap.objs.size + 1) (defScope st).names []).lookup z.1).isSome = true) := by
    rintro ⟨n, v⟩ hz
    have hn := (List.of_mem_zip hz).1
    rcases S.par n hn with h | h
    · exact Or.inl h
    · exact Or.inr ⟨h, PySem.W.cellsFrom_some _ _ _ (Or.inl h)⟩
  refine codeAny_call_function room.depth (inK _ _ lk) rfl S.co S.gen rfl (PySem.W.codeRec_of inK hcd) (bind _ _ _ _ ?_)
  refine wpAny_newFunctionEnv_cells S.kind kinds fun env' e1 s1 into => ?_
  subst e1
  refine ⟨loose.keeps into.toInCall.keep, codeAny_func ?_⟩
  obtain ⟨t, deriv, read⟩ := body xa cdv A outer s H vs Q E hh hv (room.deeper _) prom
  have env1 : Env0 P w K mg base { A with handled := none } outer s H := ⟨env.frames, env.mod, env.bs, env.bsz, env.funs, env.frf, env.hok, env.bare⟩
  have I0 := inv_start (CX := CX0) (E := E) (A := { A with handled := none }) S rfl env1 (size _ _ _ _ prom) vals into
  have I : Inv (cxU P w K mg base N qual (defScope st) f cdv A outer s H E) [] (start N vs) H s1 :=
    ⟨⟨I0.ok.mod, I0.ok.kind, I0.ok.glob, I0.ok.blt, I0.ok.above, I0.ok.inj, I0.ok.has, I0.ok.cab, (fun z => absurd (show false = true from z) Bool.false_ne_true), I0.ok.frames, I0.ok.stk, I0.ok.exf, I0.ok.bs, I0.ok.bsz, I0.ok.noex, I0.ok.exfs, I0.ok.funs, I0.ok.frf⟩,
      I0.os, I0.bare, I0.base, I0.loc, I0.cell, I0.free, I0.freeC, I0.pin, I0.hok, I0.len⟩
  refine wpAny_mono (deriv.run [] s1 (start N vs) H _ I read) (fun flow s' ends => ?_) fun _ _ q => q
  have done : ∀ {σ2 : L2.St} {H2 : Hp} {v : V} {u : Value}, Inv (cxU P w K mg base N qual (defScope st) f cdv A outer s H E) [] σ2 H2 s' → RelV v u → Q v H2 → CE outer P w H s Q u s' := by
    intro σ2 H2 v u J rel q
    exact ⟨v, H2, J.os, J.bare, J.base, J.hok, rel, q⟩
  match flow, ends with
  | .ret u, ends =>
    obtain ⟨v, σ2, H2, J, rel, q⟩ := ends
    exact done J rel q
  | .next, ends =>
    obtain ⟨σ2, H2, J, q⟩ := ends
    exact done (v := V.non) (u := Value.none) J rfl q
  | .brk, ends =>
    obtain ⟨_, _, _, q⟩ := ends
    exact q.elim
  | .cont, ends =>
    obtain ⟨_, _, _, q⟩ := ends
    exact q.elim
end
section
variable {X : Cx} {k : Nat} {f : Addr} {fd : FuncData} {ps : List Str} {sp : Sp} {E : XK} {x : Str} {p pos : Pos} {e : Expr} {es : List Expr} {t : TA}
/-- a call whose first argument is the exception xa -/
def tCallV (xa : Addr) (sp : Sp) (E : XK) (t : TA) : TE := fun σ H Q => t σ H fun vs H1 => vs[0]? = some (.ref xa) ∧ sp vs H1 Q E
theorem x_callV {xa : Addr} {sp : Sp} {E : XK} {t : TA} {σ : L2.St} {H : Hp} {Q : VK} : tCallV xa sp E t σ H Q = t σ H fun vs H1 => vs[0]? = some (.ref xa) ∧ sp vs H1 Q E := rfl
theorem pe_callV (F : FnV X.prog X.w X.K X.mg X.base k f fd ps sp) (hr : L2H.RoomH k X.A) (hg : Gl X x) (hm : X.mg x = some (.ref f)) (hk : PySem.W.keepIn X.K (.ref f) = true) (hb : Binds X.K fd ps []) (hx : Passes CX0 X E) {xa : Addr} (hh : X.A.handled = some (.ref xa))
    (ha : PA X (e :: es) t) (hdb : (x == ("__debug__" : Str)) = false := by decide) (he : starEach (e :: es) X.env = (false, eval e X.env) :: starEach es X.env := by rfl) (hpl : (backTo pos (starEach es X.env)).any (·.1) = false := by rfl) :
    PE X (.Call (.Name x p) (e :: es) [] pos) (tCallV xa sp E t) := by
  constructor
  intro pins s σ H Q I h
  have args := ha.run pos pins s σ H _ I h
  refine wpAny_Call_Name_kw (ld_glob I hg hm (PySem.W.callWith_K (h₀ := X.base) I.ok.mod.kin hk (thn args ?_) he hpl) hdb)
  rintro us s1 ⟨vs, H1, I1, r, q⟩
  refine ⟨I1.kIn, ?_⟩
  have many : (us ++ []).length = ps.length := by rw [List.append_nil]; exact r.length.symm.trans (F.size _ _ _ _ q.2)
  have bs := hb s1 us I1.kIn many
  rw [List.append_nil] at bs
  have run := F.go xa X.A X.stack s1 H1 ⟨us, []⟩ us vs Q E hh q.1 hr I1.env0 bs r q.2
  refine wpAny_call (codeAny_mono run fun res s' z => ?_)
  match res, z with
  | .error err, z => exact hx pins σ H1 s1 err s' I1 z
  | .ok (.ret u), z => exact I1.after z
end
/-! ### walks that end while an exception is handled -/
section
variable {prog : Program} {w : World} {A : Around} {E : Value → Shared → Prop} {s : Shared}
/-- what stands of an iterator while it is walked; its end is told while x1 is handled -/
structure TurnV (P : Program) (w : World) (K : PySem.W.Frag) (tg : Expr) (J : It) (fp : List Addr) (it : Addr) (tn : Nat → Heap → Prop) : Prop where
  obj : ∀ i h, tn i h → ∀ b ∈ fp, ∃ o, h.get? b = some o ∧ ∀ v, o.data ≠ .cell v
  keep : ∀ i h h', tn i h → (∀ b ∈ fp, ∀ o, h.get? b = some o → h'.get? b = some o) → tn i h'
  item : ∀ (X : Cx), X.prog = P → X.w = w → X.K = K → ∀ (i : Nat) (pins : List (Addr × Obj)) (s : Shared) (σ : L2.St) (H : Hp) (E : Value → Shared → Prop), Inv X pins σ H s → (∀ b ∈ fp, FpOk X pins H b) → tn i s.heap → J.go i H →
    wpAny (model P w) X.A (pyNext (.ref it)) (fun r s1 => ∃ u, r = some u ∧
      wpAny (model P w) X.A (letOwnedTupleGo tg (.ref it) u) (fun _ s2 => ∃ x H', Inv X pins σ H' s2 ∧ RelV x u ∧ J.yld i H x H' ∧ tn (i + 1) s2.heap ∧ ∀ b ∈ fp, H' b = none) E s1) E s
  done : ∀ (X : Cx), X.prog = P → X.w = w → X.K = K → ∀ (x1 : Addr) (i : Nat) (pins : List (Addr × Obj)) (s : Shared) (σ : L2.St) (H : Hp) (E : Value → Shared → Prop), HotX.HotAt X.A x1 s.heap → Inv X pins σ H s → (∀ b ∈ fp, FpOk X pins H b) → tn i s.heap → J.stop i H →
    wpAny (model P w) X.A (pyNext (.ref it)) (fun r s1 => r = none ∧ Inv X pins σ H s1) E s
  self : ∀ (A : Around) (i : Nat) (s : Shared) (Q : Value → Shared → Prop) (E : Value → Shared → Prop), tn i s.heap → Q (.ref it) s → wpAny (model P w) A (pyIter (.ref it)) Q E s
theorem turn_rangeV {P : Program} {w : World} {K : PySem.W.Frag} {tg : Expr} (it : Addr) (lo : Int) (n : Nat) : TurnV P w K tg (Itr lo n) [it] it (fun i h => IsRangeIter h it (lo + (i : Nat) * 1) ((n : Int) - (i : Nat)) 1) where
  obj := fun i h st b hb => by
    obtain rfl : b = it := List.mem_singleton.mp hb
    exact ⟨_, st, fun v z => nomatch (show Data.fields _ = Data.cell v from z)⟩
  keep := fun i h h' st k => k it List.mem_cons_self _ st
  item := by
    rintro X rfl rfl rfl i pins s σ H E I hf st hg
    obtain ⟨f0, f1, f2, f3, f4, f5⟩ := hf it List.mem_cons_self
    have hlt : i < n := hg
    refine wpAny_pyNext_range_item st (by omega) fun h' st' sb => ?_
    have st2 : IsRangeIter h' it (lo + ((i + 1 : Nat) : Int) * 1) ((n : Int) - ((i + 1 : Nat) : Int)) 1 := by
      rw [show lo + ((i + 1 : Nat) : Int) * 1 = lo + ((i : Nat) : Int) * 1 + 1 by omega, show (n : Int) - ((i + 1 : Nat) : Int) = (n : Int) - ((i : Nat) : Int) - 1 by omega]
      exact st'
    have I1 : Inv X pins σ H { s with heap := h', toks := s.toks + 1 } := I.turned (fun b o hb e => (sb.2 b hb).trans e) f0 f1 f3 f4 f5
    exact ⟨_, rfl, go_of (s := { s with heap := h', toks := s.toks + 1 }) (n := "range_iterator") st2 rfl rfl (by decide) ⟨.int (lo + i), H, I1, ⟨s.toks, by rw [Int.mul_one]⟩, ⟨rfl, rfl⟩, st2, fun b hb => (hf b hb).1⟩⟩
  done := by
    rintro X rfl rfl rfl x1 i pins s σ H E hot I hf st hg
    obtain ⟨f0, f1, f2, f3, f4, f5⟩ := hf it List.mem_cons_self
    have hge : n ≤ i := hg
    exact HotX.pyNext_range_end_hot hot st (by omega) fun h' eb => ⟨rfl, I.turned (t' := s.toks) (fun b o _ e => eb b o e) f0 f1 f3 f4 f5⟩
  self := fun _ _ _ _ _ st h => wpAny_pyIter_rangeiter st h
end
def PIEV (X : Cx) (pins : List (Addr × Obj)) (σ : L2.St) (tg : Expr) (R : It → Hp → Prop) (itv : Value) (s2 : Shared) : Prop :=
  ∃ (it : Addr) (fp : List Addr) (tn : Nat → Heap → Prop) (J : It) (H' : Hp), itv = .ref it ∧ Inv X pins σ H' s2 ∧ TurnV X.prog X.w X.K tg J fp it tn ∧ tn 0 s2.heap ∧ (∀ b ∈ fp, FpOk X pins H' b) ∧ R J H'
structure PIV (X : Cx) (tg iter : Expr) (wi : TI) : Prop where
  run : ∀ (pins : List (Addr × Obj)) (s : Shared) (σ : L2.St) (H : Hp) (R : It → Hp → Prop), Inv X pins σ H s → wi σ H R →
    wpAny (model X.prog X.w) X.A (eval iter X.env) (fun v s1 => wpAny (model X.prog X.w) X.A (pyIter v) (PIEV X pins σ tg R) X.xe s1) X.xe s
section
variable {X : Cx} {tg : Expr}
theorem pi_range1V {a : Expr} {ta : TA} {p pos : Pos} (hg : Gl X "range") (hm : X.mg "range" = none) (ha : PA X [a] ta) (hs : starEach [a] X.env = [(false, eval a X.env)] := by rfl) : PIV X tg (.Call (.Name "range" p) [a] [] pos) (iRng1 ta) := by
  constructor
  intro pins s σ H R I h
  refine Call_ (ld_blt I hg hm boot_range (PyProof.Rows.callWith_type1 (thn (ha.run pos pins s σ H _ I h) fun us s1 ⟨vs, H1, I1, r1, q1⟩ => ?_) hs rfl))
  obtain ⟨j, rfl, b1, b2, q⟩ := q1
  cases r1 with
  | cons r rr =>
    cases rr
    obtain ⟨t, rfl⟩ := r
    refine call_range_1 ?_
    refine wpAny_pyIter_range (IsRange.new ..) (small_one (by omega) (by omega) b1 b2) ?_
    have J1 : ∀ {h : Heap} {tk : Nat}, (∀ b o, s1.heap.get? b = some o → h.get? b = some o) → Inv X pins σ H1 { s1 with heap := h, toks := tk } := fun k => I1.kept k
    refine ⟨_, [_], _, Itr 0 (j - 0).toNat, H1, rfl, J1 fun b o e => Heap.get?_push_of_some _ (Heap.get?_push_of_some _ e), turn_rangeV _ 0 (j - 0).toNat, ?_, fun b hb => ?_, by simpa using q⟩
    · show IsRangeIter _ _ ((0 : Int) + ((0 : Nat) : Int) * 1) ((((j - 0).toNat : Nat) : Int) - ((0 : Nat) : Int)) 1
      rw [show (0 : Int) + ((0 : Nat) : Int) * 1 = 0 by simp, show ((((j - 0).toNat : Nat) : Int) - ((0 : Nat) : Int)) = Builtin.Range.rangeSize 0 j 1 by rw [rangeSize_one]; split <;> omega]
      exact Heap.get?_push_size _ rfl
    · rw [List.mem_singleton.mp hb]
      exact (J1 (tk := s1.toks) fun b o e => Heap.get?_push_of_some _ e).fpOk (Nat.le_refl _) ((J1 (tk := s1.toks) fun b o e => Heap.get?_push_of_some _ e).hok.fresh (Nat.le_refl _))
/-! ### a list comprehension while an exception is handled -/
def tLcV (xa : Addr) (wi : TI) (g : TG) (tt : TT) (te : TE) (vs : List Nat) : TE := fun σ H Q => tLc wi g tt te vs σ H fun v H' => (∃ c, IsExN H' xa c) ∧ Q v H'
theorem x_lcV {xa : Addr} {wi : TI} {g : TG} {tt : TT} {te : TE} {vs : List Nat} {σ : L2.St} {H : Hp} {Q : VK} : tLcV xa wi g tt te vs σ H Q = wi σ H (fun J H1 => ∀ Dl, H1 Dl = none → LcG J g tt te vs σ Dl H1 fun v H' => (∃ c, IsExN H' xa c) ∧ Q v H') := rfl
theorem pe_lcV {iter elt : Expr} {ifs : List Expr} {scope : Scope} {own : List (Str × Nat)} {pos : Pos} {wi : TI} {g : TG} {tt : TT} {te : TE} {xa : Addr} (hh : X.A.handled = some (.ref xa)) (hN : X.N.Nodup) (hi : PIV X tg iter wi) (ok : BlkOk X.N X.env.scope scope own)
    (hg : ∀ (s : Shared) (H : Hp) (C : Addr) (cl : List (Str × Addr)) (fp : List Addr), PG (X.blk s H scope (compEnvC scope cl C X.env) fp) tg g) (ht : ∀ (s : Shared) (H : Hp) (C : Addr) (cl : List (Str × Addr)) (fp : List Addr), PTs (X.blk s H scope (compEnvC scope cl C X.env) fp) ifs tt)
    (he : ∀ (s : Shared) (H : Hp) (C : Addr) (cl : List (Str × Addr)) (fp : List Addr), PE (X.blk s H scope (compEnvC scope cl C X.env) fp) elt te) (hs : ∀ x, foldedSetIterable iter X.env x = pure x := by intro _; rfl) :
    PE X (.ListComp elt [⟨tg, iter, ifs, 0⟩] scope pos) (tLcV xa wi g tt te (own.map (·.2))) := by
  constructor
  intro pins s σ H Q I h
  rw [eval_ListComp]
  generalize hvs : own.map (·.2) = vs at h
  refine wpAny_comprehension_free (use := none) rfl hs (closure_ok fun y hy e => (ok.free y hy e).elim (fun k => I.ok.has _ (.inl k)) (fun k => I.ok.has _ (.inr k))) ok.kind (fun y hy e => by rw [ok.uniq y hy, e]) (thn (hi.run pins s σ H _ I h) fun xv s1 hx => thn hx fun itv s2 h2 => ?_)
  obtain ⟨it, fp, tn, J, H2, rfl, I2, T, t2, f2, q⟩ := h2
  refine wpAny_newObj_type (newEnv_comp ?_) (Nat.zero_le _)
  obtain ⟨W, ⟨m0, w0⟩, turn⟩ := q s2.heap.objs.size (I2.hok.fresh (Nat.le_refl _))
  have kp : ∀ b o, s2.heap.get? b = some o → (s2.heap.push { cls := .type "list", data := .seq ([] : List Value).toArray }).get? b = some o := fun b o e => Heap.get?_push_of_some _ e
  have I3 : Inv X pins σ (upd H2 s2.heap.objs.size (.lst [])) { s2 with heap := s2.heap.push { cls := .type "list", data := .seq ([] : List Value).toArray } } :=
    I2.laid (t' := s2.toks) kp (Nat.le_refl _) ⟨Nat.zero_le _, [], 0, .nil, Heap.get?_push_size _ rfl⟩
  have f3 : ∀ b ∈ fp, FpOk X pins (upd H2 s2.heap.objs.size (.lst [])) b ∧ b < (s2.heap.push { cls := .type "list", data := .seq ([] : List Value).toArray }).objs.size := fun b hb => by
    obtain ⟨o, e, _⟩ := T.obj _ _ t2 b hb
    have lt := Heap.lt_size e
    exact ⟨⟨by rw [upd_ne (Nat.ne_of_lt lt)]; exact (f2 b hb).1, (f2 b hb).2⟩, by rw [Heap.size_push]; exact Nat.lt_succ_of_lt lt⟩
  have t3 := T.keep _ _ _ t2 fun b _ o e => kp b o e
  generalize s2.heap.objs.size = D at I3 f3 w0 turn ⊢
  generalize hs3 : ({ s2 with heap := s2.heap.push { cls := .type "list", data := .seq ([] : List Value).toArray } } : Shared) = s3 at I3
  have h3 : s2.heap.push { cls := .type "list", data := .seq ([] : List Value).toArray } = s3.heap := by rw [← hs3]
  rw [h3] at t3 f3
  have I4 := block_start I3 ok hN f3
  rw [hvs] at I4
  have pg := hg s3 (upd H2 D (.lst [])) s3.heap.objs.size (cellsFrom (s3.heap.objs.size + 1) scope.names (cloFrom X.env.cells scope.names [])) fp
  have pt := ht s3 (upd H2 D (.lst [])) s3.heap.objs.size (cellsFrom (s3.heap.objs.size + 1) scope.names (cloFrom X.env.cells scope.names [])) fp
  have pe := he s3 (upd H2 D (.lst [])) s3.heap.objs.size (cellsFrom (s3.heap.objs.size + 1) scope.names (cloFrom X.env.cells scope.names [])) fp
  show codeAny _ _ (.compStart (.ListComp elt [⟨tg, iter, ifs, 0⟩] scope pos) 0 (.ref it) (.ref D) (compEnvC scope (cellsFrom (s3.heap.objs.size + 1) scope.names (cloFrom X.env.cells scope.names [])) s3.heap.objs.size X.env)) (compPost (model X.prog X.w) X.A X.xe none (EP X pins σ Q) (.ref D) s3.heap.objs.size) { s3 with heap := pushCells (s3.heap.push { cls := .type "dict", data := .dict #[] }) scope.names }
  have eL : (compEnvC scope (cellsFrom (s3.heap.objs.size + 1) scope.names (cloFrom X.env.cells scope.names [])) s3.heap.objs.size X.env).locals = s3.heap.objs.size := rfl
  generalize compEnvC scope (cellsFrom (s3.heap.objs.size + 1) scope.names (cloFrom X.env.cells scope.names [])) s3.heap.objs.size X.env = ce at I4 pg pt pe eL ⊢
  have t4 : tn 0 (pushCells (s3.heap.push { cls := .type "dict", data := .dict #[] }) scope.names) := T.keep _ _ _ t3 fun b _ o e => pushCells_keeps _ _ _ _ (Heap.get?_push_of_some _ e)
  generalize hB : X.blk s3 (upd H2 D (.lst [])) scope ce fp = B at I4 pg pt pe
  have stat : ∀ {σ' : L2.St} {H' : Hp} {s' : Shared}, Inv B [] σ' H' s' → (∀ b ∈ fp, H' b = none) → ∀ b ∈ fp, FpOk B [] H' b := fun {σ' H' s'} I' hn b hb => by
    subst hB
    exact ⟨hn b hb, (I'.ok.exf b hb).1, I'.ok.exfs b hb, .inl hb, fun x c e => (I'.ok.exf b hb).2 x c e, fun p hp => nomatch (show p ∈ ([] : List (Addr × Obj)) from hp)⟩
  have loop : codeAny (model X.prog X.w) X.A (.compLoop (.ListComp elt [⟨tg, iter, ifs, 0⟩] scope pos) 0 (.ref it) (.ref D) ce) (compPost (model X.prog X.w) X.A X.xe none (EP X pins σ Q) (.ref D) s3.heap.objs.size) { s3 with heap := pushCells (s3.heap.push { cls := .type "dict", data := .dict #[] }) scope.names } := by
    refine compLoop_any (fun n s' => ∃ i H', Inv B [] (wipe σ vs) H' s' ∧ tn i s'.heap ∧ (∀ b ∈ fp, H' b = none) ∧ W i n H') ?_ m0 ⟨0, _, I4, t4, fun b hb => (f3 b hb).1.1, w0⟩
    rintro n s5 ⟨i, H5, I5, t5, n5, w5⟩
    subst hB
    rcases turn i n H5 w5 with ⟨stop, ⟨c, hx⟩, qq⟩ | ⟨go, Nx, hNx, step⟩
    · have td := T.done (X.blk s3 (upd H2 D (.lst [])) scope ce fp) rfl rfl rfl xa i [] s5 _ H5 (fun _ _ => False) (hx.hot I5 hh) I5 (stat I5 n5) t5 stop
      refine thnF td fun r s6 ⟨hr, I6⟩ => ?_
      subst hr
      have I7 : Inv X pins σ H5 s6 := I3.call' (ch := fp) I6.os I6.base I6.hok I6.bare fun b hb => ⟨(f3 b hb).1.2.2.2.1, (f3 b hb).1.2.1, (f3 b hb).1.2.2.2.2.1, (f3 b hb).1.2.2.2.2.2⟩
      have nC : H5 s3.heap.objs.size = none := by
        have z : H5 ce.locals = none := I6.free
        rwa [eL] at z
      obtain ⟨m, hn, _⟩ := I6.loc
      have hn : s6.heap.Ns ce.locals m := hn
      rw [eL] at hn
      obtain ⟨a0, a1, a2, a3, a4, a5⟩ := I3.fpOk (H' := H5) (Nat.le_refl _) nC
      exact ⟨m, hn, fun h'' sb => ⟨.ref D, H5, I7.turned (t' := s6.toks) (fun b o hb e => (sb.2 b hb).trans e) a0 a1 a3 a4 a5, rfl, qq⟩⟩
    · have ti := T.item (X.blk s3 (upd H2 D (.lst [])) scope ce fp) rfl rfl rfl i [] s5 _ H5 (fun _ _ => False) I5 (stat I5 n5) t5 go
      refine thnF ti fun r s6 ⟨u, hr, h6⟩ => ?_
      subst hr
      refine thnF h6 fun _ s7 ⟨x, H7, I7, r7, y7, t7, n7⟩ => ?_
      have I8 := I7.pinned (stat I7 n7) (T.obj _ _ t7)
      refine thnF (pg.run _ s7 _ H7 x u _ I8 r7 (step x H7 y7)) fun _ s8 ⟨σ8, H8, I9, w8, q8⟩ => ?_
      refine thnF (pt.run _ s8 σ8 H8 _ I9 q8) fun b s9 ⟨H9, J9, q9⟩ => ?_
      have turnOver : ∀ {s' : Shared} {H' : Hp}, Inv (X.blk s3 (upd H2 D (.lst [])) scope ce fp) ([] ++ pinsAt fp s7.heap) σ8 H' s' → Nx H' → ∃ m, m < n ∧ ∃ i H', Inv (X.blk s3 (upd H2 D (.lst [])) scope ce fp) [] (wipe σ vs) H' s' ∧ tn i s'.heap ∧ (∀ b ∈ fp, H' b = none) ∧ W i m H' := fun {s' H'} K9 nx => by
        obtain ⟨m', lt, w'⟩ := hNx H' nx
        have pin' : ∀ b ∈ fp, ∀ o, s7.heap.get? b = some o → s'.heap.get? b = some o ∧ H' b = none := fun b hb o e =>
          let z := K9.pin (b, o) (List.mem_append_right _ (List.mem_append_right _ (mem_pinsAt hb e)))
          ⟨z.1, z.2.1⟩
        refine ⟨m', lt, i + 1, H', (K9.unpinned (pins := [])).weak (by rw [← w8, wipe_length]) (fun j v e => ?_), T.keep _ _ _ t7 fun b hb o e => (pin' b hb o e).1, fun b hb => ?_, w'⟩
        · rw [← w8] at e
          exact (wipe_some e).1
        · obtain ⟨o, e, _⟩ := T.obj _ _ t7 b hb
          exact (pin' b hb o e).2
      cases b with
      | false => exact turnOver J9 q9
      | true =>
        refine thnF (pe.run _ s9 σ8 H9 _ J9 q9) fun z s10 ⟨yv, H10, K10, r10, acc, hD10, hz10, nx⟩ => ?_
        exact app_ok (X := X.blk s3 (upd H2 D (.lst [])) scope ce fp) K10 hD10 hz10 r10 fun s11 K11 => turnOver K11 nx
  exact codeAny_compStart_list loop (T.self X.A 0 _ _ _ t4 loop)
end
/-! ### defs that raise exceptions whose context is None -/
theorem takes0N {X : Cx} : L2N.Takes X (fun _ _ _ _ => False) := fun _ _ ⟨_, _, _, _, _, _, _, _, _, _, _, _, _, _, _, _, z⟩ => z.elim
theorem okXN {P : Program} {w : World} {K : PySem.W.Frag} {mg : Str → Option Value} {base : Heap} {x qual : Str} {st : Stmt} {f : Addr} {fd : FuncData} {N ps : List Str} {k : Nat} {sp : Sp} (F : Fun K x qual st f fd) (S : FnScope N ps (defScope st)) (len : ∀ vs H Q E, sp vs H Q E → vs.length = ps.length)
    (body : ∀ (cdv : Value) (A : Around) (outer : List Env) (s : Shared) (H : Hp) (vs : List V) (Q : VK) (E : XK), Room k (A.deeper (envOfC qual (defScope st) s.heap.objs.size f cdv)) → sp vs H Q E →
      ∃ t, PSs (cxOf (L2N.CX P w) P w K mg base N qual (defScope st) f cdv A outer s H E) (defBody st) t ∧ t { nx := fun _ H' => Q .non H', rt := Q } (start N vs) H) : FnOk P w K mg base (L2N.CX P w) (k + 1) f fd ps sp := by
  obtain ⟨oc, od, kV, doc, pm, an, cdv, ct, osl, rfl, lk, hcd⟩ := F.ex
  exact fn_of lk hcd S len fun A outer s H vs Q E hr hsp => body cdv A outer s H vs Q E hr hsp
/-! ### f(k = v, ..), what it raises wished for at the caller's slots -/
section
variable {X : Cx} {CX : CXT} {k : Nat} {f : Addr} {fd : FuncData} {ps ks : List Str} {sp : Sp} {E : L2.St → XK} {x : Str} {p pos : Pos} {kws : List Keyword} {tk : TA} {g : List Value → List Value → List Value} {gV : List V → List V → List V}
def tCallKS (sp : Sp) (gV : List V → List V → List V) (E : L2.St → XK) (tk : TA) : TE := fun σ H Q => tk σ H fun zs H2 => sp (gV [] zs) H2 Q (E σ)
theorem x_callKS {σ : L2.St} {H : Hp} {Q : VK} : tCallKS sp gV E tk σ H Q = tk σ H fun zs H2 => sp (gV [] zs) H2 Q (E σ) := rfl
theorem pe_callKS0 (F : FnOk X.prog X.w X.K X.mg X.base CX k f fd ps sp) (hr : Room k X.A) (hg : Gl X x) (hm : X.mg x = some (.ref f)) (hk : PySem.W.keepIn X.K (.ref f) = true) (hb : KBinds X.K fd ps ks g gV) (hx : ∀ σ, PassesAt CX X σ (E σ))
    (hkw : PK X kws tk) (hall : (backToKw pos (keywordEach kws X.env)).all (·.1.isSome) = true := by rfl) (hks : (backToKw pos (keywordEach kws X.env)).filterMap (·.1) = ks := by rfl)
    (hdb : (x == ("__debug__" : Str)) = false := by decide)
    (hpl : ((backTo pos (starEach [] X.env)).any (·.1) || (backToKw pos (keywordEach kws X.env)).any (·.1.isNone)) = false := by rfl) :
    PE X (.Call (.Name x p) [] kws pos) (tCallKS sp gV E tk) := by
  constructor
  intro pins s σ H Q I h
  refine wpAny_Call_Name_kw (ld_glob I hg hm ?_ hdb)
  refine PySem.W.callWith_KW0 (h₀ := X.base) I.ok.mod.kin hk hall (thn (hkw.run pos pins s σ H _ I h) fun ws s2 ⟨zs, H2, I2, rz, q2⟩ => ⟨I2.kIn, ?_⟩) hpl
  rw [hks]
  have r2 := hb.rel .nil rz
  have hl : (g [] ws).length = ps.length := by rw [← r2.length]; exact F.len _ _ _ _ q2
  refine wpAny_call (codeAny_mono (F.run X.A X.stack s2 H2 ⟨[], ks.zip ws⟩ (g [] ws) (gV [] zs) Q (E σ) hr I2.env0 (hb.to s2 [] ws I2.kIn hl) r2 q2) fun r s' z => ?_)
  match r, z with
  | .error err, z => exact hx σ pins H2 s2 err s' I2 z
  | .ok (.ret u), z => exact I2.after z
end
end BC

set_option Elab.async false
set_option linter.all false
set_option maxRecDepth 100000
set_option maxHeartbeats 4000000
/-! a call of a def that an expression chooses: [f, g][i](..) -/
namespace BC
open PySem PySem.Spec PyProof.Rows L2
section
variable {X : Cx} {CX : CXT} {k1 k2 : Nat} {f1 f2 : Addr} {fd1 fd2 : FuncData} {ps1 ps2 : List Str} {sp1 sp2 : Sp} {E : L2.St → XK} {fe e : Expr} {es : List Expr} {tf : TE} {t : TA} {pos : Pos}
/-- one of two defs is called; what it raises is wished for at the caller's slots -/
def tCallF2 (f1 f2 : Addr) (sp1 sp2 : Sp) (E : L2.St → XK) (tf : TE) (t : TA) : TE := fun σ H Q => tf σ H fun x H1 => (x = .ref f1 ∧ t σ H1 fun vs H2 => sp1 vs H2 Q (E σ)) ∨ (x = .ref f2 ∧ t σ H1 fun vs H2 => sp2 vs H2 Q (E σ))
theorem x_callF2 {σ : L2.St} {H : Hp} {Q : VK} : tCallF2 f1 f2 sp1 sp2 E tf t σ H Q = tf σ H fun x H1 => (x = .ref f1 ∧ t σ H1 fun vs H2 => sp1 vs H2 Q (E σ)) ∨ (x = .ref f2 ∧ t σ H1 fun vs H2 => sp2 vs H2 Q (E σ)) := rfl
theorem pe_callF2 (hf : PE X fe tf) (F1 : FnOk X.prog X.w X.K X.mg X.base CX k1 f1 fd1 ps1 sp1) (r1 : Room k1 X.A) (kp1 : PySem.W.keepIn X.K (.ref f1) = true) (b1 : Binds X.K fd1 ps1 [])
    (F2 : FnOk X.prog X.w X.K X.mg X.base CX k2 f2 fd2 ps2 sp2) (r2 : Room k2 X.A) (kp2 : PySem.W.keepIn X.K (.ref f2) = true) (b2 : Binds X.K fd2 ps2 []) (hx : ∀ σ, PassesAt CX X σ (E σ)) (ha : PA X (e :: es) t)
    (ht : eval (.Call fe (e :: es) [] pos) X.env = (do callWith pos (← eval fe X.env) [] (backTo pos (starEach (e :: es) X.env)) (backToKw pos (keywordEach [] X.env))) := by rfl)
    (he : starEach (e :: es) X.env = (false, eval e X.env) :: starEach es X.env := by rfl) (hpl : (backTo pos (starEach es X.env)).any (·.1) = false := by rfl) :
    PE X (.Call fe (e :: es) [] pos) (tCallF2 f1 f2 sp1 sp2 E tf t) := by
  constructor
  intro pins s σ H Q I h
  refine Call_ (thn (hf.run pins s σ H _ I h) fun u s1 ⟨x, H1, I1, rx, q⟩ => ?_) ht
  rcases q with ⟨rfl, q⟩ | ⟨rfl, q⟩
  · obtain rfl : u = Value.ref f1 := rx
    exact PySem.W.callWith_K (h₀ := X.base) I1.ok.mod.kin kp1 (thn (ha.run pos pins s1 σ H1 _ I1 q) fun us s2 ⟨vs, H2, I2, r, q2⟩ => ⟨I2.kIn, run_fnS F1 r1 b1 (hx σ) I2 r q2⟩) he hpl
  · obtain rfl : u = Value.ref f2 := rx
    exact PySem.W.callWith_K (h₀ := X.base) I1.ok.mod.kin kp2 (thn (ha.run pos pins s1 σ H1 _ I1 q) fun us s2 ⟨vs, H2, I2, r, q2⟩ => ⟨I2.kIn, run_fnS F2 r2 b2 (hx σ) I2 r q2⟩) he hpl
end
end BC

set_option Elab.async false
set_option linter.all false
set_option maxRecDepth 100000
set_option maxHeartbeats 4000000
/-! C(..) whose __init__ raises: what it raises is wished for at the caller's slots -/
namespace BC
open PySem PySem.Spec PyProof.Rows L2
def tMakeS (C : Addr) (sp : Sp) (E : L2.St → XK) (t : TA) : TE := fun σ H Q => t σ H fun vs H1 => ∀ x dx, H1 x = none → H1 dx = none → dx ≠ x → sp (.ref x :: vs) (upd (upd H1 dx (.own x)) x (.ins C dx [])) (fun v H2 => v = .non ∧ Q (.ref x) H2) (E σ)
theorem x_makeS {C : Addr} {sp : Sp} {E : L2.St → XK} {t : TA} {σ : L2.St} {H : Hp} {Q : VK} : tMakeS C sp E t σ H Q = t σ H fun vs H1 => ∀ x dx, H1 x = none → H1 dx = none → dx ≠ x → sp (.ref x :: vs) (upd (upd H1 dx (.own x)) x (.ins C dx [])) (fun v H2 => v = .non ∧ Q (.ref x) H2) (E σ) := rfl
def tMakeKS (C : Addr) (sp : Sp) (gV : List V → List V → List V) (E : L2.St → XK) (tk : TA) : TE := fun σ H Q => tk σ H fun zs H2 => ∀ x dx, H2 x = none → H2 dx = none → dx ≠ x →
  sp (gV [.ref x] zs) (upd (upd H2 dx (.own x)) x (.ins C dx [])) (fun v H3 => v = .non ∧ Q (.ref x) H3) (E σ)
theorem x_makeKS {C : Addr} {sp : Sp} {gV : List V → List V → List V} {E : L2.St → XK} {tk : TA} {σ : L2.St} {H : Hp} {Q : VK} : tMakeKS C sp gV E tk σ H Q = tk σ H fun zs H2 => ∀ x dx, H2 x = none → H2 dx = none → dx ≠ x →
  sp (gV [.ref x] zs) (upd (upd H2 dx (.own x)) x (.ins C dx [])) (fun v H3 => v = .non ∧ Q (.ref x) H3) (E σ) := rfl
section
variable {X : Cx} {CX : CXT} {k : Nat} {f C : Addr} {fd : FuncData} {ps ks : List Str} {sp : Sp} {E : L2.St → XK} {x : Str} {p pos : Pos} {e : Expr} {es : List Expr} {kws : List Keyword} {t tk : TA} {g : List Value → List Value → List Value} {gV : List V → List V → List V}
theorem run_makeS {pins : List (Addr × Obj)} {σ : L2.St} {H : Hp} {s : Shared} {Q : VK} {us : List Value} {vs : List V} (M : Mk X.K C f) (F : FnOk X.prog X.w X.K X.mg X.base CX k f fd ps sp) (hr : Room (k + 1) X.A) (hb : Binds X.K fd ps [])
    (hx : PassesAt CX X σ (E σ)) (I : Inv X pins σ H s) (r : Vals vs us)
    (h : ∀ x dx, H x = none → H dx = none → dx ≠ x → sp (.ref x :: vs) (upd (upd H dx (.own x)) x (.ins C dx [])) (fun v H2 => v = .non ∧ Q (.ref x) H2) (E σ)) :
    wpAny (model X.prog X.w) X.A (call (.ref C) us) (EP X pins σ Q) X.xe s := by
  have hq := h (s.heap.objs.size + 1) s.heap.objs.size (I.hok.fresh (Nat.le_succ _)) (I.hok.fresh (Nat.le_refl _)) (Nat.ne_of_lt (Nat.lt_succ_self _))
  have I2 := Inv.made (C := C) I
  have r2 : Vals (V.ref (s.heap.objs.size + 1) :: vs) (Value.ref (s.heap.objs.size + 1) :: us) := .cons rfl r
  have hl : (Value.ref (s.heap.objs.size + 1) :: us ++ ([] : List Value)).length = ps.length := by
    have e := r2.length
    rw [F.len _ _ _ _ hq] at e
    rw [List.append_nil]
    exact e.symm
  have b := hb _ (Value.ref (s.heap.objs.size + 1) :: us) I2.kIn hl
  rw [List.append_nil] at b
  refine wpAny_call (make_map (f := f) I.kIn M.makes M.init (beq_iff_eq.mp M.fn) (codeAny_mono (F.run _ X.stack _ _ ⟨Value.ref (s.heap.objs.size + 1) :: us, []⟩ (Value.ref (s.heap.objs.size + 1) :: us) _ _ (E σ) (hr.make C us [])
    (I2.env0.make C us []) b r2 hq) fun r s' hq' => ?_))
  cases r with
  | error e => exact hx pins _ _ e s' I2 hq'
  | ok fl =>
    cases fl with
    | ret u =>
      obtain ⟨v, H', I3, rv, ev, q3⟩ := I2.after hq'
      subst ev
      exact ⟨rv, ⟨V.ref (s.heap.objs.size + 1), H', I3, rfl, q3⟩⟩
    | next => exact False.elim hq'
    | brk => exact False.elim hq'
    | cont => exact False.elim hq'
theorem pe_makeS (M : Mk X.K C f) (F : FnOk X.prog X.w X.K X.mg X.base CX k f fd ps sp) (hr : Room (k + 1) X.A) (hg : Gl X x) (hm : X.mg x = some (.ref C)) (hb : Binds X.K fd ps []) (hx : ∀ σ, PassesAt CX X σ (E σ))
    (ha : PA X (e :: es) t) (hdb : (x == ("__debug__" : Str)) = false := by decide) (he : starEach (e :: es) X.env = (false, eval e X.env) :: starEach es X.env := by rfl) (hpl : (backTo pos (starEach es X.env)).any (·.1) = false := by rfl) :
    PE X (.Call (.Name x p) (e :: es) [] pos) (tMakeS C sp E t) := by
  refine ⟨fun pins s σ H Q I h => ?_⟩
  refine wpAny_Call_Name_kw (ld_glob I hg hm ?_ hdb)
  refine PySem.W.callWith_K (h₀ := X.base) I.ok.mod.kin M.kp (thn (ha.run pos pins s σ H _ I h) fun us s1 ⟨vs, H1, I1, r, q⟩ => ⟨I1.kIn, ?_⟩) he hpl
  exact run_makeS M F hr hb (hx σ) I1 r q
theorem run_makeKS {pins : List (Addr × Obj)} {σ : L2.St} {H : Hp} {s : Shared} {Q : VK} {ws : List Value} {zs : List V} (M : Mk X.K C f) (F : FnOk X.prog X.w X.K X.mg X.base CX k f fd ps sp) (hr : Room (k + 1) X.A) (hb : KBinds X.K fd ps ks g gV) (hx : PassesAt CX X σ (E σ))
    (I : Inv X pins σ H s) (rz : Vals zs ws)
    (h : ∀ x dx, H x = none → H dx = none → dx ≠ x → sp (gV [.ref x] zs) (upd (upd H dx (.own x)) x (.ins C dx [])) (fun v H2 => v = .non ∧ Q (.ref x) H2) (E σ)) :
    wpAny (model X.prog X.w) X.A (call (.ref C) [] (ks.zip ws)) (EP X pins σ Q) X.xe s := by
  have hq := h (s.heap.objs.size + 1) s.heap.objs.size (I.hok.fresh (Nat.le_succ _)) (I.hok.fresh (Nat.le_refl _)) (Nat.ne_of_lt (Nat.lt_succ_self _))
  have I2 := Inv.made (C := C) I
  have r1 : Vals [V.ref (s.heap.objs.size + 1)] [Value.ref (s.heap.objs.size + 1)] := .cons rfl .nil
  have r2 := hb.rel r1 rz
  have hl : (g [Value.ref (s.heap.objs.size + 1)] ws).length = ps.length := by rw [← r2.length]; exact F.len _ _ _ _ hq
  refine wpAny_call (make_map (f := f) I.kIn M.makes M.init (beq_iff_eq.mp M.fn) (codeAny_mono (F.run _ X.stack _ _ ⟨[Value.ref (s.heap.objs.size + 1)], ks.zip ws⟩ (g [Value.ref (s.heap.objs.size + 1)] ws) _ _ (E σ) (hr.make C [] (ks.zip ws))
    (I2.env0.make C [] (ks.zip ws)) (hb.to _ [Value.ref (s.heap.objs.size + 1)] ws I2.kIn hl) r2 hq) fun r s' hq' => ?_))
  cases r with
  | error e => exact hx pins _ _ e s' I2 hq'
  | ok fl =>
    cases fl with
    | ret u =>
      obtain ⟨v, H', I3, rv, ev, q3⟩ := I2.after hq'
      subst ev
      exact ⟨rv, ⟨V.ref (s.heap.objs.size + 1), H', I3, rfl, q3⟩⟩
    | next => exact False.elim hq'
    | brk => exact False.elim hq'
    | cont => exact False.elim hq'
/-- C(k = v, ..) -/
theorem pe_makeKS0 (M : Mk X.K C f) (F : FnOk X.prog X.w X.K X.mg X.base CX k f fd ps sp) (hr : Room (k + 1) X.A) (hg : Gl X x) (hm : X.mg x = some (.ref C)) (hb : KBinds X.K fd ps ks g gV) (hx : ∀ σ, PassesAt CX X σ (E σ)) (hkw : PK X kws tk)
    (hall : (backToKw pos (keywordEach kws X.env)).all (·.1.isSome) = true := by rfl) (hks : (backToKw pos (keywordEach kws X.env)).filterMap (·.1) = ks := by rfl) (hdb : (x == ("__debug__" : Str)) = false := by decide)
    (hpl : ((backTo pos (starEach [] X.env)).any (·.1) || (backToKw pos (keywordEach kws X.env)).any (·.1.isNone)) = false := by rfl) :
    PE X (.Call (.Name x p) [] kws pos) (tMakeKS C sp gV E tk) := by
  refine ⟨fun pins s σ H Q I h => ?_⟩
  refine wpAny_Call_Name_kw (ld_glob I hg hm ?_ hdb)
  refine PySem.W.callWith_KW0 (h₀ := X.base) I.ok.mod.kin M.kp hall ?_ hpl
  refine thn (hkw.run pos pins s σ H _ I h) fun ws s2 ⟨zs, H2, I2, rz, q2⟩ => ⟨I2.kIn, ?_⟩
  rw [hks]
  exact run_makeKS M F hr hb (hx σ) I2 rz q2
end
theorem k_sortedP {X : Cx} {K : PySem.W.Frag} (hK : X.K = K) : CallR X (.builtin "sorted") (rSortedPO K) := by subst hK; exact cr_sortedPO
end BC

set_option Elab.async false
set_option linter.all false
set_option maxRecDepth 100000
set_option maxHeartbeats 4000000
/-! objects of one of several classes: the class stands in the reading -/
namespace BC
open PySem PySem.Spec PyProof.Rows L2
section
variable {X : Cx} {K : PySem.W.Frag} {CX : CXT} {k k2 : Nat} {f f2 p g : Addr} {fd fd2 : FuncData} {ps ps2 : List Str} {sp sp2 : Sp} {dvs : List V} {ds : List Value} {E : XK} {ES : L2.St → XK} {m : Str} {apos pos : Pos} {e o : Expr} {es : List Expr} {ta : TE} {t : TA} {pl : Sem Bool}
/-- o.m(e, ..), what is raised wished for at the caller's slots; o of any class whose m is f -/
def tMethF (K : PySem.W.Frag) (m : Str) (f : Addr) (sp : Sp) (dvs : List V) (E : L2.St → XK) (ta : TE) (t : TA) : TE := fun σ H Q => ta σ H fun x H1 => ∃ a C dx fs, x = .ref a ∧ H1 a = some (.ins C dx fs) ∧ fs.lookup m = none ∧ Cls K C ∧ Meth K C m f ∧ t σ H1 fun vs H2 => sp (.ref a :: (vs ++ dvs)) H2 Q (E σ)
/-- .. m one of two defs -/
def tMethF2 (K : PySem.W.Frag) (m : Str) (f : Addr) (sp : Sp) (f2 : Addr) (sp2 : Sp) (E : L2.St → XK) (ta : TE) (t : TA) : TE := fun σ H Q => ta σ H fun x H1 => ∃ a C dx fs, x = .ref a ∧ H1 a = some (.ins C dx fs) ∧ fs.lookup m = none ∧ Cls K C ∧
  ((Meth K C m f ∧ t σ H1 fun vs H2 => sp (.ref a :: vs) H2 Q (E σ)) ∨ (Meth K C m f2 ∧ t σ H1 fun vs H2 => sp2 (.ref a :: vs) H2 Q (E σ)))
theorem run_fnSD' {pins : List (Addr × Obj)} {σ : L2.St} {H : Hp} {s : Shared} {Q : VK} {us : List Value} {vs : List V} (F : FnOk X.prog X.w X.K X.mg X.base CX k f fd ps sp) (hr : Room k X.A) (hb : Binds X.K fd ps ds) (hd : Vals dvs ds) (hx : PassesAt CX X σ E)
    (I : Inv X pins σ H s) (r : Vals vs us) (h : sp (vs ++ dvs) H Q E) : wpAny (model X.prog X.w) X.A (call (.ref f) us) (EP X pins σ Q) X.xe s := by
  have r2 : Vals (vs ++ dvs) (us ++ ds) := r.append hd
  have hl : (us ++ ds).length = ps.length := by rw [← r2.length]; exact F.len _ _ _ _ h
  refine wpAny_call (codeAny_mono (F.run X.A X.stack s H ⟨us, []⟩ (us ++ ds) (vs ++ dvs) Q E hr I.env0 (hb s us I.kIn hl) r2 h) fun r s' hq => ?_)
  cases r with
  | error e => exact hx pins H s e s' I hq
  | ok fl =>
    cases fl with
    | ret u => exact I.after hq
    | next => exact False.elim hq
    | brk => exact False.elim hq
    | cont => exact False.elim hq
theorem pe_methF (hK : X.K = K) (he : PE X o ta) (F : FnOk X.prog X.w X.K X.mg X.base CX k f fd ps sp) (hr : Room k X.A) (hb : Binds X.K fd ps ds) (hd : Vals dvs ds) (hx : ∀ σ, PassesAt CX X σ (ES σ)) (ha : PA X (e :: es) t)
    (hst : starEach (e :: es) X.env = (false, eval e X.env) :: starEach es X.env := by rfl) (hpl : (backTo pos (starEach es X.env)).any (·.1) = false := by rfl)
    (ht : eval (.Call (.Attribute o m apos) (e :: es) [] pos) X.env = (do
      let ov ← eval o X.env
      standAt apos.atName
      let (f, first) ← holding [ov] (getMethod ov m pl)
      callWith pos f first (backTo pos (starEach (e :: es) X.env)) (backToKw pos (keywordEach [] X.env))) := by rfl) :
    PE X (.Call (.Attribute o m apos) (e :: es) [] pos) (tMethF K m f sp dvs ES ta t) := by
  subst hK
  refine ⟨fun pins s σ H Q I h => ?_⟩
  refine PySem.W.methodCall_KW (pl := pl) (thn (he.run pins s σ H _ I h) fun u s1 ⟨x, H1, I1, rx, a, C, dx, fs, ex, ea, l, c, hm, q⟩ => ?_) ht
  subst ex
  obtain rfl : u = Value.ref a := rx
  refine getmeth_ok I1 ea c hm l ?_
  refine PySem.W.callWith_K (first := [.ref a]) (h₀ := X.base) I.ok.mod.kin hm.kp (thn (ha.run pos pins s1 σ H1 _ I1 q) fun us s2 ⟨vs, H2, I2, r, q2⟩ => ⟨I2.kIn, ?_⟩) hst hpl
  exact run_fnSD' (us := .ref a :: us) (vs := .ref a :: vs) F hr hb hd (hx σ) I2 (.cons rfl r) q2
theorem pe_methF0 (hK : X.K = K) (he : PE X o ta) (F : FnOk X.prog X.w X.K X.mg X.base CX k f fd ps sp) (hr : Room k X.A) (hb : Binds X.K fd ps ds) (hd : Vals dvs ds) (hx : ∀ σ, PassesAt CX X σ (ES σ))
    (ht : eval (.Call (.Attribute o m apos) [] [] pos) X.env = (do
      let ov ← eval o X.env
      standAt apos.atName
      let (f, first) ← holding [ov] (getMethod ov m pl)
      callWith pos f first (backTo pos (starEach [] X.env)) (backToKw pos (keywordEach [] X.env))) := by rfl) :
    PE X (.Call (.Attribute o m apos) [] [] pos) (tMethF K m f sp dvs ES ta tNil) := by
  subst hK
  refine ⟨fun pins s σ H Q I h => ?_⟩
  refine PySem.W.methodCall_KW (pl := pl) (thn (he.run pins s σ H _ I h) fun u s1 ⟨x, H1, I1, rx, a, C, dx, fs, ex, ea, l, c, hm, q⟩ => ?_) ht
  subst ex
  obtain rfl : u = Value.ref a := rx
  refine getmeth_ok I1 ea c hm l ?_
  exact PySem.W.callWith_K0 (first := [.ref a]) I1.kIn hm.kp (run_fnSD' (us := [.ref a]) (vs := [.ref a]) F hr hb hd (hx σ) I1 (.cons rfl .nil) q)
theorem pe_methF2 (hK : X.K = K) (he : PE X o ta) (F : FnOk X.prog X.w X.K X.mg X.base CX k f fd ps sp) (hr : Room k X.A) (hb : Binds X.K fd ps []) (F2 : FnOk X.prog X.w X.K X.mg X.base CX k2 f2 fd2 ps2 sp2) (hr2 : Room k2 X.A) (hb2 : Binds X.K fd2 ps2 []) (hx : ∀ σ, PassesAt CX X σ (ES σ)) (ha : PA X (e :: es) t)
    (hst : starEach (e :: es) X.env = (false, eval e X.env) :: starEach es X.env := by rfl) (hpl : (backTo pos (starEach es X.env)).any (·.1) = false := by rfl)
    (ht : eval (.Call (.Attribute o m apos) (e :: es) [] pos) X.env = (do
      let ov ← eval o X.env
      standAt apos.atName
      let (f, first) ← holding [ov] (getMethod ov m pl)
      callWith pos f first (backTo pos (starEach (e :: es) X.env)) (backToKw pos (keywordEach [] X.env))) := by rfl) :
    PE X (.Call (.Attribute o m apos) (e :: es) [] pos) (tMethF2 K m f sp f2 sp2 ES ta t) := by
  subst hK
  refine ⟨fun pins s σ H Q I h => ?_⟩
  refine PySem.W.methodCall_KW (pl := pl) (thn (he.run pins s σ H _ I h) fun u s1 ⟨x, H1, I1, rx, a, C, dx, fs, ex, ea, l, c, q⟩ => ?_) ht
  subst ex
  obtain rfl : u = Value.ref a := rx
  rcases q with ⟨hm, q⟩ | ⟨hm, q⟩
  · refine getmeth_ok I1 ea c hm l ?_
    refine PySem.W.callWith_K (first := [.ref a]) (h₀ := X.base) I.ok.mod.kin hm.kp (thn (ha.run pos pins s1 σ H1 _ I1 q) fun us s2 ⟨vs, H2, I2, r, q2⟩ => ⟨I2.kIn, ?_⟩) hst hpl
    exact run_fnSD' (us := .ref a :: us) (vs := .ref a :: vs) F hr hb .nil (hx σ) I2 (.cons rfl r) (by rw [List.append_nil]; exact q2)
  · refine getmeth_ok I1 ea c hm l ?_
    refine PySem.W.callWith_K (first := [.ref a]) (h₀ := X.base) I.ok.mod.kin hm.kp (thn (ha.run pos pins s1 σ H1 _ I1 q) fun us s2 ⟨vs, H2, I2, r, q2⟩ => ⟨I2.kIn, ?_⟩) hst hpl
    exact run_fnSD' (us := .ref a :: us) (vs := .ref a :: vs) F2 hr2 hb2 .nil (hx σ) I2 (.cons rfl r) (by rw [List.append_nil]; exact q2)
theorem pe_methF20 (hK : X.K = K) (he : PE X o ta) (F : FnOk X.prog X.w X.K X.mg X.base CX k f fd ps sp) (hr : Room k X.A) (hb : Binds X.K fd ps []) (F2 : FnOk X.prog X.w X.K X.mg X.base CX k2 f2 fd2 ps2 sp2) (hr2 : Room k2 X.A) (hb2 : Binds X.K fd2 ps2 []) (hx : ∀ σ, PassesAt CX X σ (ES σ))
    (ht : eval (.Call (.Attribute o m apos) [] [] pos) X.env = (do
      let ov ← eval o X.env
      standAt apos.atName
      let (f, first) ← holding [ov] (getMethod ov m pl)
      callWith pos f first (backTo pos (starEach [] X.env)) (backToKw pos (keywordEach [] X.env))) := by rfl) :
    PE X (.Call (.Attribute o m apos) [] [] pos) (tMethF2 K m f sp f2 sp2 ES ta tNil) := by
  subst hK
  refine ⟨fun pins s σ H Q I h => ?_⟩
  refine PySem.W.methodCall_KW (pl := pl) (thn (he.run pins s σ H _ I h) fun u s1 ⟨x, H1, I1, rx, a, C, dx, fs, ex, ea, l, c, q⟩ => ?_) ht
  subst ex
  obtain rfl : u = Value.ref a := rx
  rcases q with ⟨hm, q⟩ | ⟨hm, q⟩
  · refine getmeth_ok I1 ea c hm l ?_
    exact PySem.W.callWith_K0 (first := [.ref a]) I1.kIn hm.kp (run_fnSD' (us := [.ref a]) (vs := [.ref a]) F hr hb .nil (hx σ) I1 (.cons rfl .nil) (by rw [List.append_nil]; exact q))
  · refine getmeth_ok I1 ea c hm l ?_
    exact PySem.W.callWith_K0 (first := [.ref a]) I1.kIn hm.kp (run_fnSD' (us := [.ref a]) (vs := [.ref a]) F2 hr2 hb2 .nil (hx σ) I1 (.cons rfl .nil) (by rw [List.append_nil]; exact q))
/-! methods with a star parameter -/
def tMethR (K : PySem.W.Frag) (m : Str) (f : Addr) (sp : Sp) (E : L2.St → XK) (ta : TE) (t : TA) : TE := fun σ H Q => ta σ H fun x H1 => ∃ a C dx fs, x = .ref a ∧ H1 a = some (.ins C dx fs) ∧ fs.lookup m = none ∧ Cls K C ∧ Meth K C m f ∧ t σ H1 fun vs H2 => sp (.ref a :: vs) H2 Q (E σ)
theorem run_fnRS {pins : List (Addr × Obj)} {σ : L2.St} {H : Hp} {s : Shared} {Q : VK} {us : List Value} {vs : List V} (F : FnR X.prog X.w X.K X.mg X.base CX k f sp) (hr : Room k X.A) (hx : PassesAt CX X σ E) (I : Inv X pins σ H s) (r : Vals vs us) (h : sp vs H Q E) : wpAny (model X.prog X.w) X.A (call (.ref f) us) (EP X pins σ Q) X.xe s := by
  refine wpAny_call (codeAny_mono (F X.A X.stack s H us vs Q E hr I.env0 r h) fun r s' hq => ?_)
  cases r with
  | error e => exact hx pins H s e s' I hq
  | ok fl =>
    cases fl with
    | ret u => exact I.after hq
    | next => exact False.elim hq
    | brk => exact False.elim hq
    | cont => exact False.elim hq
theorem pe_methSt (hK : X.K = K) (he : PE X o ta) (F : FnR X.prog X.w X.K X.mg X.base CX k f sp) (hr : Room k X.A) (hx : ∀ σ, PassesAt CX X σ (ES σ)) (ha : PA X (e :: es) t)
    (hst : starEach (e :: es) X.env = (false, eval e X.env) :: starEach es X.env := by rfl) (hpl : (backTo pos (starEach es X.env)).any (·.1) = false := by rfl)
    (ht : eval (.Call (.Attribute o m apos) (e :: es) [] pos) X.env = (do
      let ov ← eval o X.env
      standAt apos.atName
      let (f, first) ← holding [ov] (getMethod ov m pl)
      callWith pos f first (backTo pos (starEach (e :: es) X.env)) (backToKw pos (keywordEach [] X.env))) := by rfl) :
    PE X (.Call (.Attribute o m apos) (e :: es) [] pos) (tMethR K m f sp ES ta t) := by
  subst hK
  refine ⟨fun pins s σ H Q I h => ?_⟩
  refine PySem.W.methodCall_KW (pl := pl) (thn (he.run pins s σ H _ I h) fun u s1 ⟨x, H1, I1, rx, a, C, dx, fs, ex, ea, l, c, hm, q⟩ => ?_) ht
  subst ex
  obtain rfl : u = Value.ref a := rx
  refine getmeth_ok I1 ea c hm l ?_
  refine PySem.W.callWith_K (first := [.ref a]) (h₀ := X.base) I.ok.mod.kin hm.kp (thn (ha.run pos pins s1 σ H1 _ I1 q) fun us s2 ⟨vs, H2, I2, r, q2⟩ => ⟨I2.kIn, ?_⟩) hst hpl
  exact run_fnRS (us := .ref a :: us) (vs := .ref a :: vs) F hr (hx σ) I2 (.cons rfl r) q2
theorem pe_methSt0 (hK : X.K = K) (he : PE X o ta) (F : FnR X.prog X.w X.K X.mg X.base CX k f sp) (hr : Room k X.A) (hx : ∀ σ, PassesAt CX X σ (ES σ))
    (ht : eval (.Call (.Attribute o m apos) [] [] pos) X.env = (do
      let ov ← eval o X.env
      standAt apos.atName
      let (f, first) ← holding [ov] (getMethod ov m pl)
      callWith pos f first (backTo pos (starEach [] X.env)) (backToKw pos (keywordEach [] X.env))) := by rfl) :
    PE X (.Call (.Attribute o m apos) [] [] pos) (tMethR K m f sp ES ta tNil) := by
  subst hK
  refine ⟨fun pins s σ H Q I h => ?_⟩
  refine PySem.W.methodCall_KW (pl := pl) (thn (he.run pins s σ H _ I h) fun u s1 ⟨x, H1, I1, rx, a, C, dx, fs, ex, ea, l, c, hm, q⟩ => ?_) ht
  subst ex
  obtain rfl : u = Value.ref a := rx
  refine getmeth_ok I1 ea c hm l ?_
  exact PySem.W.callWith_K0 (first := [.ref a]) I1.kIn hm.kp (run_fnRS (us := [.ref a]) (vs := [.ref a]) F hr (hx σ) I1 (.cons rfl .nil) q)
/-! properties, len, in -/
def tPropF (K : PySem.W.Frag) (m : Str) (p g : Addr) (sp : Sp) (E : XK) (ta : TE) : TE := fun σ H Q => ta σ H fun x H1 => ∃ a C dx fs, x = .ref a ∧ H1 a = some (.ins C dx fs) ∧ Cls K C ∧ PropOf K C m p g ∧ sp [.ref a] H1 Q E
theorem pe_propF (hK : X.K = K) (he : PE X e ta) (F : FnOk X.prog X.w X.K X.mg X.base CX k g fd ps sp) (hr : Room (k + 1) X.A) (hb : Binds X.K fd ps []) (hx : Passes CX X.nox E)
    (hab : attributeBase e m X.env (eval e X.env) = eval e X.env) : PE X (.Attribute e m pos) (tPropF K m p g sp E ta) := by
  subst hK
  refine ⟨fun pins s σ H Q I h => ?_⟩
  refine attr_of hab (thn (he.run pins s σ H _ I h) fun u s1 ⟨x, H1, I1, rx, a, C, dx, fs, ex, ea, c, hp, q⟩ => ?_)
  subst ex
  obtain rfl : u = Value.ref a := rx
  exact getprop_ok I1 ea c hp F hr hb .nil hx q
structure SpecOf (K : PySem.W.Frag) (C : Addr) (m : Str) (f : Addr) : Prop where
  at_ : PySem.W.findIn K (.ref C) m = some (some (.ref f))
  fn : PySem.W.isFn K (.ref f) = true
def rLenF (K : PySem.W.Frag) (f : Addr) (sp : Sp) (E : XK) : List V → Hp → VK → Prop := fun xs H Q => ∃ C, SpecOf K C "__len__" f ∧ rLenOwn C sp E xs H Q
theorem call_lenF (hK : X.K = K) (F : FnOk X.prog X.w X.K X.mg X.base CX k f fd ps sp) (hr : Room (k + 1) X.A) (hb : Binds X.K fd ps []) (hx : Passes CX X E) : CallR X (.builtin "len") (rLenF K f sp E) := by
  subst hK
  intro pins s σ H xs us Q I r h
  obtain ⟨C, hs, h⟩ := h
  exact call_lenOwn hs.at_ hs.fn F hr hb hx pins s σ H xs us Q I r h
def rInF (K : PySem.W.Frag) (f : Addr) (sp : Sp) (E : XK) : R2 := fun x y H Q => ∃ a C dx fs, y = .ref a ∧ SpecOf K C "__contains__" f ∧ H a = some (.ins C dx fs) ∧ sp [.ref a, x] H (fun v H' => ∃ b : Bool, v = .bl b ∧ Q (.bl b) H') E
theorem op_inF (hK : X.K = K) (F : FnOk X.prog X.w X.K X.mg X.base CX k f fd ps sp) (hr : Room k X.A) (hb : Binds X.K fd ps []) (hx : Passes CX X E) : OpR X (compareOp .In) (rInF K f sp E) := by
  subst hK
  intro pins s σ H x y v u Q I rx ry h
  obtain ⟨a, C, dx, fs, rfl, hs, ea, h⟩ := h
  obtain rfl : u = Value.ref a := ry
  obtain ⟨ox, od, J, hdt⟩ := inst_of I ea
  obtain ⟨m, hF⟩ := I.fr
  refine PySem.W.in_K hF I.ok.mod.kin J hs.at_ hs.fn ?_
  refine thn (run_fn F hr hb .nil hx I (us := [.ref a, v]) (vs := [.ref a, x]) (.cons rfl (.cons rx .nil)) h) fun r s' hq => ?_
  obtain ⟨v', H', I', rv, b, rfl, q⟩ := hq
  obtain rfl : r = Value.bool b := rv
  show wpAny _ _ (pure b) _ _ _
  exact wpAny_pure ⟨.bl b, H', I', rfl, q⟩
end
/-! the same under a name for the written part -/
section
variable {X : Cx} {K : PySem.W.Frag} {σ : L2.St} {H : Hp} {Q : VK}
variable {m : Str} {f f2 p g : Addr} {sp sp2 : Sp} {dvs : List V} {E : XK} {ES : L2.St → XK} {ta : TE} {t : TA}
theorem x_methF : tMethF K m f sp dvs ES ta t σ H Q = ta σ H fun x H1 => ∃ a C dx fs, x = .ref a ∧ H1 a = some (.ins C dx fs) ∧ fs.lookup m = none ∧ Cls K C ∧ Meth K C m f ∧ t σ H1 fun vs H2 => sp (.ref a :: (vs ++ dvs)) H2 Q (ES σ) := rfl
theorem x_methF2 : tMethF2 K m f sp f2 sp2 ES ta t σ H Q = ta σ H fun x H1 => ∃ a C dx fs, x = .ref a ∧ H1 a = some (.ins C dx fs) ∧ fs.lookup m = none ∧ Cls K C ∧
  ((Meth K C m f ∧ t σ H1 fun vs H2 => sp (.ref a :: vs) H2 Q (ES σ)) ∨ (Meth K C m f2 ∧ t σ H1 fun vs H2 => sp2 (.ref a :: vs) H2 Q (ES σ))) := rfl
theorem x_methR : tMethR K m f sp ES ta t σ H Q = ta σ H fun x H1 => ∃ a C dx fs, x = .ref a ∧ H1 a = some (.ins C dx fs) ∧ fs.lookup m = none ∧ Cls K C ∧ Meth K C m f ∧ t σ H1 fun vs H2 => sp (.ref a :: vs) H2 Q (ES σ) := rfl
theorem x_propF : tPropF K m p g sp E ta σ H Q = ta σ H fun x H1 => ∃ a C dx fs, x = .ref a ∧ H1 a = some (.ins C dx fs) ∧ Cls K C ∧ PropOf K C m p g ∧ sp [.ref a] H1 Q E := rfl
end
/-! a def with a star parameter -/
theorem cxUpN {P : Program} {w : World} : StX.CXUp (L2N.CX P w) := by
  rintro outer s H s2 H2 E e s' un kp ho ⟨a, B, H', cls, d, ea, fl, hok, ub, na, os, ag, he⟩
  refine ⟨a, B, H', cls, d, ea, fl, hok, ⟨fun b o q n hb => ub.keep b o (kp b o q) (un.free b o q n (by simp)) hb, fun b o q hb => ub.slot b o (kp b o q) hb, fun b o q n => ub.free b o (kp b o q) (un.free b o q n (by simp)),
    fun b o q hb => ub.there b o (kp b o q) hb, fun b xs q => ub.tups b xs (un.tups b xs q), fun b o xs q => ub.frzs b o xs (un.frzs b o xs q), fun b ps q => ?_⟩, na, os.trans ho, ag, he⟩
  obtain ⟨m1, e1⟩ := un.tbls b ps q
  obtain ⟨m2, e2⟩ := ub.tbls b _ e1
  exact ⟨m1 ++ m2, by rw [e2, Array.append_assoc]⟩
/-- the promise of a def f(a, .., *v) out of that of its body -/
def spStar (n : Nat) (sp : Sp) : Sp := fun vs H Q E => ∃ ws rest, vs = ws ++ rest ∧ ws.length = n ∧ rest.length ≤ sizeLine ∧ ∀ p, H p = Option.none → sp (ws ++ [V.ref p]) (upd H p (.tup rest)) Q E
theorem starOk {CX : CXT} {P : Program} {w : World} {K : PySem.W.Frag} {mg : Str → Option Value} {base : Heap} {x qual : Str} {st : Stmt} {f : Addr} {fd : FuncData} {N ps : List Str} {pv : Str} {k : Nat} {sp : Sp} (F : Fun K x qual st f fd) (S : FnScope N (ps ++ [pv]) (defScope st)) (hCX : StX.CXUp CX)
    (hb : ∀ (kV doc pm : Value) (an : Option Addr) (cdv ct : Value) (us rest : List Value), us.length = ps.length → bindArgs (PySem.W.fnOf x qual (defArgs st) (defBody st) (defScope st) .none kV doc pm an cdv ct) ⟨us ++ rest, []⟩ = (newTuple rest >>= fun t => pure (ps.zip us ++ [(pv, t)])))
    (body : ∀ (cdv : Value) (A : Around) (outer : List Env) (s : Shared) (H : Hp) (vs : List V) (Q : VK) (E : XK), Room k (A.deeper (envOfC qual (defScope st) s.heap.objs.size f cdv)) → sp vs H Q E →
      ∃ t, PSs (cxOf CX P w K mg base N qual (defScope st) f cdv A outer s H E) (defBody st) t ∧ t { nx := fun _ H' => Q .non H', rt := Q } (start N vs) H) :
    FnR P w K mg base CX (k + 1) f (spStar ps.length sp) := by
  obtain ⟨oc, od, kV, doc, pm, an, cdv, ct, osl, rfl, lk, hcd⟩ := F.ex
  exact StX.fn_star lk hcd S hCX (hb kV doc pm an cdv ct) fun A outer s H vs Q E hr hsp => body cdv A outer s H vs Q E hr hsp
theorem each1 {P : Addr → Prop} {a : Addr} (ha : P a) : ∀ x ∈ [a], P x := fun x h => by rw [List.mem_singleton.mp h]; exact ha
theorem each2 {P : Addr → Prop} {a b : Addr} (ha : P a) (hb : P b) : ∀ x ∈ [a, b], P x := fun x h => (List.mem_cons.mp h).elim (fun e => by rw [e]; exact ha) (each1 hb x)
theorem each3 {P : Addr → Prop} {a b c : Addr} (ha : P a) (hb : P b) (hc : P c) : ∀ x ∈ [a, b, c], P x := fun x h => (List.mem_cons.mp h).elim (fun e => by rw [e]; exact ha) (each2 hb hc x)
theorem each4 {P : Addr → Prop} {a b c d : Addr} (ha : P a) (hb : P b) (hc : P c) (hd : P d) : ∀ x ∈ [a, b, c, d], P x := fun x h => (List.mem_cons.mp h).elim (fun e => by rw [e]; exact ha) (each3 hb hc hd x)
/-- the classes of a list each have the method .. -/
theorem all4 {α : Type} {P : α → Prop} {l : List α} (h : ∀ x ∈ l, P x) {i : Nat} {x : α} (e : l[i]? = some x) : P x := h x (List.mem_of_getElem? e)
/-! nothing is raised, told at the slots -/
theorem passS0 {X : Cx} {σ : L2.St} : PassesAt CX0 X σ E0 := fun _ _ _ _ _ _ c => (False.elim (by exact c))
/-! arguments all given to a def that has defaults -/
theorem binds_dfl {K : PySem.W.Frag} {fd : FuncData} {ps : List Str} {T : Addr} {o : Obj} {its : Array Value} {m : Nat} (lT : K.lookup T = some o) (oT : o.data = .seq its m)
    (h : ∀ us : List Value, us.length = ps.length → ∃ k, bindArgs fd ⟨us, []⟩ = seqItems? (.ref T) >>= k ∧ k (some its) = pure (ps.zip us)) : Binds K fd ps [] := fun s us X hl => by
  rw [List.append_nil] at hl ⊢
  obtain ⟨k, e1, e2⟩ := h us hl
  refine BindsTo.of_looks fun M => ?_
  rw [e1]
  exact looks_items X lT oT (PySem.W.Looks.of_pure e2)
theorem kb_dfl {K : PySem.W.Frag} {fd : FuncData} {q : Str} {ps ks : List Str} {a b : Nat} {p : List Nat} {T : Addr} {o : Obj} {its : Array Value} {m : Nat} (lT : K.lookup T = some o) (oT : o.data = .seq its m)
    (h : ∀ us ws : List Value, us.length = a → ws.length = b → ∃ k, bindArgs fd ⟨us, ks.zip ws⟩ = seqItems? (.ref T) >>= k ∧ k (some its) = pure ((q :: ps).zip (p.map fun i => (us ++ ws).getD i .none))) :
    KBinds K fd (q :: ps) ks (kg .none a b p) (kg .non a b p) := by
  refine ⟨fun s us ws X hl => ?_, kg_rel⟩
  unfold kg at hl ⊢
  split at hl
  · next c =>
    rw [if_pos c]
    obtain ⟨k, e1, e2⟩ := h us ws c.1 c.2
    refine BindsTo.of_looks fun M => ?_
    rw [e1]
    exact looks_items X lT oT (PySem.W.Looks.of_pure e2)
  · cases hl
/-- t + u, of any tuples -/
theorem k_catA {X : Cx} {K : PySem.W.Frag} (hK : X.K = K) : OpR X (binaryOp .Add) (L2.rCatA K) := by subst hK; exact L2.op_catA
end BC

set_option Elab.async false
set_option linter.all false
set_option maxRecDepth 100000
set_option maxHeartbeats 4000000
/-! a def with defaults, all arguments given -/
namespace BC
open PySem PySem.Spec PyProof.Rows L2 Evl
structure FunW (K : PySem.W.Frag) (x qual : Str) (st : Stmt) (f : Addr) (fd : FuncData) : Prop where
  ex : ∃ (oc : Value) (od : Option Addr) (dV kV doc pm : Value) (an : Option Addr) (cdv ct : Value) (osl : Array (Option Value)),
    fd = PySem.W.fnOf x qual (defArgs st) (defBody st) (defScope st) dV kV doc pm an cdv ct ∧ K.lookup f = some ⟨oc, od, .func fd, osl⟩ ∧ PySem.W.codeIn K cdv qual = true
  kp : PySem.W.keepIn K (.ref f) = true
theorem fun_mkW {K : PySem.W.Frag} {x qual : Str} {st : Stmt} {f : Addr} {oc : Value} {od an : Option Addr} {osl : Array (Option Value)} {dV kV doc pm cdv ct : Value} (l : K.lookup f = some ⟨oc, od, .func (PySem.W.fnOf x qual (defArgs st) (defBody st) (defScope st) dV kV doc pm an cdv ct), osl⟩)
    (c : PySem.W.codeIn K cdv qual = true) (k : PySem.W.keepIn K (.ref f) = true) : FunW K x qual st f (PySem.W.fnOf x qual (defArgs st) (defBody st) (defScope st) dV kV doc pm an cdv ct) := ⟨⟨oc, od, dV, kV, doc, pm, an, cdv, ct, osl, rfl, l, c⟩, k⟩
theorem okXNW {P : Program} {w : World} {K : PySem.W.Frag} {mg : Str → Option Value} {base : Heap} {x qual : Str} {st : Stmt} {f : Addr} {fd : FuncData} {N ps : List Str} {k : Nat} {sp : Sp} (F : FunW K x qual st f fd) (S : FnScope N ps (defScope st)) (len : ∀ vs H Q E, sp vs H Q E → vs.length = ps.length)
    (body : ∀ (cdv : Value) (A : Around) (outer : List Env) (s : Shared) (H : Hp) (vs : List V) (Q : VK) (E : XK), Room k (A.deeper (envOfC qual (defScope st) s.heap.objs.size f cdv)) → sp vs H Q E →
      ∃ t, PSs (cxOf (L2N.CX P w) P w K mg base N qual (defScope st) f cdv A outer s H E) (defBody st) t ∧ t { nx := fun _ H' => Q .non H', rt := Q } (L2.start N vs) H) : FnOk P w K mg base (L2N.CX P w) (k + 1) f fd ps sp := by
  obtain ⟨oc, od, dV, kV, doc, pm, an, cdv, ct, osl, rfl, lk, hcd⟩ := F.ex
  exact fn_of lk hcd S len fun A outer s H vs Q E hr hsp => body cdv A outer s H vs Q E hr hsp
end BC

set_option Elab.async false
set_option linter.all false
set_option maxRecDepth 100000
set_option maxHeartbeats 4000000
/-! lists walked and tuples unpacked while an exception is handled -/
namespace BC
open PySem PySem.Spec PyProof.Rows L2 HotX
section
variable {prog : Program} {w : World} {A : Around} {E : Value → Shared → Prop} {s : Shared}
theorem keep_upd {h h1 : Heap} {it : Addr} {o : Obj → Obj} (e : ∀ b x, b ≠ it → h.get? b = some x → h1.get? b = some x) : ∀ b x, b ≠ it → h.get? b = some x → h1.get? b = some x := e
theorem list_end_hot {it l x1 : Addr} {i : Nat} {items} {Q : Option Value → Shared → Prop} (hot : HotAt A x1 s.heap) (ne : x1 ≠ it)
    (hit : s.heap.IsListIter it l i) (hl : s.heap.IsList l items) (hx : items[i]? = none)
    (hQ : ∀ h', Heap.ExtBut it s.heap h' → Q none { s with heap := h' }) : wpAny (model prog w) A (pyNext (.ref it)) Q E s := by
  obtain ⟨o, ho, hc, hd⟩ := id hit
  obtain ⟨ol, hol, _, nl, hdl⟩ := hl
  obtain ⟨hh, o1, vs1, h1, d1, c1⟩ := hot
  unfold pyNext
  refine wpAny_bind (wpAny_attempt (wpAny_callSpecial?_slot (name := Str.ofString "__next__") hit.typeIs slot_listiter_next
    (wpAny_call_entry slot_listiter_next hit.typeIs entry_listiter_next ?_ (args_listiter_next _))))
  show wpAny _ _ (field (.ref it) 0 >>= _) _ _ s
  refine wpAny_bind (wpAny_field ho hd (x := .ref l) rfl ?_)
  show wpAny _ _ (if (Value.ref l == Value.none) = true then _ else _) _ _ s
  rw [if_neg (show ¬ ((Value.ref l == Value.none) = true) from Bool.false_ne_true)]
  show wpAny _ _ (field (.ref it) 1 >>= _) _ _ s
  refine wpAny_bind (wpAny_field ho hd (x := .int i 0) rfl ?_)
  show wpAny _ _ (seqItems? (.ref l) >>= _) _ _ s
  refine wpAny_bind (wpAny_seqItems hol hdl ?_)
  simp only [Int.toNat_natCast, hx]
  refine wpAny_bind (wpAny_rule (wpAny_bind (wpAny_setField ho hd (by simp) ?_)))
  show wpAny _ _ (newExc (.type "StopIteration") [] >>= _) _ _ _
  refine wpAny_bind ?_
  simp only [newExc, newTuple]
  refine wpAny_bind (wpAny_newObj_type ?_ (by size_fits))
  refine wpAny_bind (m := firstArgMember _ _) (wpAny_of_eq (a := Value.none) (by first | rfl | (simp only [firstArgMember]; rfl)) ?_)
  refine wpAny_newObj_type ?_ (by size_fits)
  have h1' : (s.heap.update it (Obj.mapFields fun x => x.setIfInBounds 0 Value.none)).get? x1 = some o1 := by
    rw [Heap.get?_update_ne _ _ _ _ ne]; exact h1
  refine raiseNew_hot (oe := _) (vs := _) ⟨hh, o1, vs1, Heap.get?_push_of_some _ (Heap.get?_push_of_some _ h1'), d1, c1⟩ (Nat.ne_of_lt (Heap.lt_size (Heap.get?_push_of_some _ h1'))) (Heap.get?_push_size _ rfl) rfl (by first | (simp; done) | (simp; omega) | (simp only [Array.size_append]; simp; omega)) ?_
  refine wpAny_bind (wpAny_isInstance (T := "StopIteration") (b := true) ⟨_, Heap.get?_update_self _ (Heap.get?_push_size _ rfl) rfl, rfl⟩ isSubtype_stop ?_)
  refine wpAny_pure (hQ _ fun b o nb e => ?_)
  have e1 : (s.heap.update it (Obj.mapFields fun x => x.setIfInBounds 0 Value.none)).get? b = some o := by
    rw [Heap.get?_update_ne _ _ _ _ nb]; exact e
  rw [Heap.get?_update_other _ _ (Nat.ne_of_gt (Heap.lt_size (Heap.get?_push_of_some _ e1)))]
  exact Heap.get?_push_of_some _ (Heap.get?_push_of_some _ e1)
theorem tuple_end_hot {it t x1 : Addr} {i : Nat} {items} {Q : Option Value → Shared → Prop} (hot : HotAt A x1 s.heap) (ne : x1 ≠ it)
    (hit : s.heap.IsTupleIter it t i) (ht : s.heap.IsTuple t items) (hx : items[i]? = none)
    (hQ : ∀ h', Heap.ExtBut it s.heap h' → Q none { s with heap := h' }) : wpAny (model prog w) A (pyNext (.ref it)) Q E s := by
  obtain ⟨o, ho, hc, hd⟩ := id hit
  obtain ⟨ol, hol, _, nl, hdl⟩ := ht
  obtain ⟨hh, o1, vs1, h1, d1, c1⟩ := hot
  unfold pyNext
  refine wpAny_bind (wpAny_attempt (wpAny_callSpecial?_slot (name := Str.ofString "__next__") hit.typeIs F.slot_tuple_iterator_next
    (wpAny_call_entry F.slot_tuple_iterator_next hit.typeIs F.entry_tuple_iterator_next ?_ (F.args_tuple_iterator_next_1 _))))
  show wpAny _ _ (field (.ref it) 0 >>= _) _ _ s
  refine wpAny_bind (wpAny_field ho hd (x := .ref t) rfl ?_)
  show wpAny _ _ (if (Value.ref t == Value.none) = true then _ else _) _ _ s
  rw [if_neg (show ¬ ((Value.ref t == Value.none) = true) from Bool.false_ne_true)]
  show wpAny _ _ (field (.ref it) 1 >>= _) _ _ s
  refine wpAny_bind (wpAny_field ho hd (x := .int i 0) rfl ?_)
  show wpAny _ _ (seqItems? (.ref t) >>= _) _ _ s
  refine wpAny_bind (wpAny_seqItems hol hdl ?_)
  simp only [Int.toNat_natCast, hx]
  refine wpAny_bind (wpAny_rule (wpAny_bind (wpAny_setField ho hd (by simp) ?_)))
  show wpAny _ _ (newExc (.type "StopIteration") [] >>= _) _ _ _
  refine wpAny_bind ?_
  simp only [newExc, newTuple]
  refine wpAny_bind (wpAny_newObj_type ?_ (by size_fits))
  refine wpAny_bind (m := firstArgMember _ _) (wpAny_of_eq (a := Value.none) (by first | rfl | (simp only [firstArgMember]; rfl)) ?_)
  refine wpAny_newObj_type ?_ (by size_fits)
  have h1' : (s.heap.update it (Obj.mapFields fun x => x.setIfInBounds 0 Value.none)).get? x1 = some o1 := by
    rw [Heap.get?_update_ne _ _ _ _ ne]; exact h1
  refine raiseNew_hot (oe := _) (vs := _) ⟨hh, o1, vs1, Heap.get?_push_of_some _ (Heap.get?_push_of_some _ h1'), d1, c1⟩ (Nat.ne_of_lt (Heap.lt_size (Heap.get?_push_of_some _ h1'))) (Heap.get?_push_size _ rfl) rfl (by first | (simp; done) | (simp; omega) | (simp only [Array.size_append]; simp; omega)) ?_
  refine wpAny_bind (wpAny_isInstance (T := "StopIteration") (b := true) ⟨_, Heap.get?_update_self _ (Heap.get?_push_size _ rfl) rfl, rfl⟩ isSubtype_stop ?_)
  refine wpAny_pure (hQ _ fun b o nb e => ?_)
  have e1 : (s.heap.update it (Obj.mapFields fun x => x.setIfInBounds 0 Value.none)).get? b = some o := by
    rw [Heap.get?_update_ne _ _ _ _ nb]; exact e
  rw [Heap.get?_update_other _ _ (Nat.ne_of_gt (Heap.lt_size (Heap.get?_push_of_some _ e1)))]
  exact Heap.get?_push_of_some _ (Heap.get?_push_of_some _ e1)
theorem hotAt_ext {x1 b : Addr} {h h' : Heap} (hot : HotAt A x1 h) (ne : x1 ≠ b) (e : Heap.ExtBut b h h') : HotAt A x1 h' := by
  obtain ⟨hh, o1, vs1, h1, d1, c1⟩ := hot
  exact ⟨hh, o1, vs1, e _ _ ne h1, d1, c1⟩
theorem unpackItems_hot {t x1 : Addr} {items : Array Value} {Q : List Value → Shared → Prop} (hot : HotAt A x1 s.heap) (ht : s.heap.IsTuple t items)
    (hQ : ∀ h', Heap.ExtBut s.heap.objs.size s.heap h' → Q items.toList { s with heap := h' }) : wpAny (model prog w) A (unpackItems (.ref t) items.size none) Q E s := by
  have hlt : t ≠ s.heap.objs.size := by obtain ⟨o, ho, _⟩ := ht; exact Nat.ne_of_lt (Heap.lt_size ho)
  have hx1 : x1 ≠ s.heap.objs.size := by obtain ⟨_, o, _, ho, _⟩ := id hot; exact Nat.ne_of_lt (Heap.lt_size ho)
  unfold unpackItems
  refine wpAny_bind ?_
  · unfold notIterableAtAll
    refine wpAny_bind (wpAny_specialOf ht.typeIs F.slot_tuple_iter.lookup ?_)
    refine wpAny_pure ?_
    simp only [Bool.false_eq_true, if_false]
    refine wpAny_bind (wpAny_holding (wpAny_pyIter_tuple ht ?_))
    refine wpAny_bind (wpAny_holding (wpAny_draw_tuple hlt items.size 0 _ _ ⟨_, Heap.get?_push_size _ rfl, rfl, rfl⟩ (ht.push _) (by omega) fun h₁ hit₁ hs₁ => ?_))
    have hall : List.take items.size (List.drop 0 items.toList) = items.toList := by
      rw [List.drop_zero]; exact List.take_of_length_le (by simp)
    rw [hall]
    rw [if_neg (by simp)]
    have ht₁ : h₁.IsTuple t items := (ht.push _).extBut hs₁.extBut hlt
    have e01 : Heap.ExtBut s.heap.objs.size s.heap h₁ := fun b o hb e => hs₁.extBut b o hb (Heap.get?_push_of_some _ e)
    refine wpAny_bind (wpAny_holding (tuple_end_hot (hotAt_ext hot hx1 e01) hx1 hit₁ ht₁ (by simp) fun h₂ he₂ => ?_))
    simp only [Option.isSome_none, Bool.false_eq_true, if_false]
    refine wpAny_pure (hQ h₂ fun b o hb e => he₂ b o hb (e01 b o hb e))
theorem assign_Tuple_hot {env : Env} {elts : List Expr} {n1} {pos : Pos} {t x1 : Addr} {items : Array Value} {Q : Unit → Shared → Prop} (hot : HotAt A x1 s.heap) (ht : s.heap.IsTuple t items)
    (hn : (assignEach elts env).length = items.size) (hstar : (assignEach elts env).findIdx? (·.1) = none)
    (h : ∀ h', Heap.ExtBut s.heap.objs.size s.heap h' → wpAny (model prog w) A (assignInOrder ((assignEach elts env).map (·.2)) items.toList) Q E { s with heap := h' }) :
    wpAny (model prog w) A (assign (.Tuple elts n1 pos) env (.ref t)) Q E s := by
  rw [arm_assign_Tuple]
  refine wpAny_bind (wpAny_standAt ?_)
  unfold unpack
  rw [hn, hstar]
  exact wpAny_bind (wpAny_holding (unpackItems_hot hot ht h))
end
section
variable {X : Cx} {K : PySem.W.Frag} {xa : Addr}
def gTupV (xa : Addr) (K : PySem.W.Frag) (n : Nat) (t : TGs) : TG := fun v σ H Q => (∃ c, IsExN H xa c) ∧ gTup K n t v σ H Q
theorem x_gtupV {n : Nat} {t : TGs} {v : V} {σ : L2.St} {H : Hp} {Q : L2.St → Hp → Prop} : gTupV xa K n t v σ H Q = ((∃ c, IsExN H xa c) ∧ gTup K n t v σ H Q) := rfl
theorem pg_tupV {es : List Expr} {k : Nat} {pos : Pos} {t : TGs} {n : Nat} (hK : X.K = K) (hh : X.A.handled = some (.ref xa)) (h : PGs X es t)
    (hn : (assignEach es X.env).length = n := by rfl) (hst : (assignEach es X.env).findIdx? (·.1) = none := by rfl) : PG X (.Tuple es k pos) (gTupV xa K n t) := by
  subst hK
  refine ⟨fun pins s σ H v u Q I r hw => ?_⟩
  obtain ⟨⟨c, hx⟩, a, xs, e1, hq, hl, hw⟩ := hw
  subst e1
  cases r
  obtain ⟨its, rv, ht, hz⟩ := I.tuple hq
  refine assign_Tuple_hot (hx.hot I hh) ht (by simp [hn, ← hl, rv.length]) hst fun h' hx => ?_
  have I1 : Inv X pins σ H { s with heap := h' } := I.kept (t' := s.toks) fun b o e => hx b o (Nat.ne_of_lt (Heap.lt_size e)) e
  exact h.run pins _ σ H xs _ Q I1 (by simpa using rv) hw
theorem turn_listV {P : Program} {w : World} {K : PySem.W.Frag} {tg : Expr} (a it : Addr) : TurnV P w K tg (Itl K a) [it] it (fun i h => h.IsListIter it a i) where
  obj := fun i h st b hb => by
    obtain rfl : b = it := List.mem_singleton.mp hb
    obtain ⟨o, e, c, d⟩ := st
    exact ⟨o, e, fun v z => by rw [d] at z; cases z⟩
  keep := fun i h h' st k => st.at fun o e => k it (by simp) o e
  item := by
    rintro X rfl rfl rfl i pins s σ H E I hf st hg
    obtain ⟨xs, x, hq, hx⟩ := hg
    obtain ⟨its, rv, p, hz⟩ := I.list hq
    obtain ⟨u, hu, ru⟩ := rv.get hx
    obtain ⟨f0, f1, f2, f3, f4, f5⟩ := hf it (by simp)
    refine wpAny_pyNext_list_item st p.isList (x := u) (by simpa using hu) fun h' st' sb => ?_
    have I1 : Inv X pins σ H { s with heap := h' } := I.turned (t' := s.toks) (fun b o hb e => (sb.2 b hb).trans e) f0 f1 f3 f4 f5
    obtain ⟨o, e, c, d⟩ := id st'
    exact ⟨u, rfl, go_of (s := { s with heap := h' }) e c d (by decide) ⟨x, H, I1, ru, ⟨rfl, fun ys hy => by rw [I.list_inj hy hq]; exact hx⟩, st', fun b hb => (hf b hb).1⟩⟩
  done := by
    rintro X rfl rfl rfl x1 i pins s σ H E hot I hf st hg
    obtain ⟨xs, hq, hx⟩ := hg
    obtain ⟨its, rv, p, hz⟩ := I.list hq
    obtain ⟨f0, f1, f2, f3, f4, f5⟩ := hf it (by simp)
    have hl := rv.length
    have ne : x1 ≠ it := by
      rintro rfl
      obtain ⟨_, o1, vs1, h1, d1, c1⟩ := hot
      obtain ⟨o, e, c, d⟩ := st
      rw [e] at h1
      cases h1
      rw [d] at d1
      cases d1
      simp at c1
    exact list_end_hot hot ne st p.isList (by simp; omega) fun h' eb => ⟨rfl, I.turned (t' := s.toks) (fun b o hb e => eb b o hb e) f0 f1 f3 f4 f5⟩
  self := fun _ _ _ _ _ st h => wpAny_pyIter_listiter st h
theorem pi_listV {tg l : Expr} {tl : TE} (hK : X.K = K) (hl : PE X l tl) : PIV X tg l (iList K tl) := by
  subst hK
  refine ⟨fun pins s σ H R I h => ?_⟩
  refine thn (hl.run pins s σ H _ I h) fun v s1 ⟨x, H1, I1, r1, q1⟩ => ?_
  obtain ⟨a, e, ⟨xs, hq⟩, q⟩ := q1
  subst e
  cases r1
  obtain ⟨its, rv, p, hz⟩ := I1.list hq
  refine wpAny_pyIter_list p.isList ?_
  refine ⟨s1.heap.objs.size, [s1.heap.objs.size], _, _, H1, rfl, I1.kept (t' := s1.toks) fun b o e => Heap.get?_push_of_some _ e, turn_listV a _, ⟨_, Heap.get?_push_size _ rfl, rfl, rfl⟩, fun b hb => ?_, q⟩
  have e : b = s1.heap.objs.size := by simpa using hb
  subst e
  exact I1.fpOk (Nat.le_refl _) (I1.hok.fresh (Nat.le_refl _))
end
end BC

set_option Elab.async false
set_option linter.all false
set_option maxRecDepth 100000
set_option maxHeartbeats 4000000
/-! effects of visits: for each page its exit -/
namespace EF
open PySem PySem.Spec PyProof.Rows L2 BC TR
/-- the exit of a page: what comes behind its last visit -/
def nx : List Int → Int → Option Int
  | [], _ => none
  | a :: r, p => match nx r p with
    | some y => some y
    | none => if a = p then some (r.headD a) else none
theorem nx_some {a p y : Int} {r : List Int} (h : nx r p = some y) : nx (a :: r) p = some y := by
  show (match nx r p with | some y => some y | none => _) = _
  rw [h]
theorem nx_none {a p : Int} {r : List Int} (h : nx r p = none) : nx (a :: r) p = if a = p then some (r.headD a) else none := by
  show (match nx r p with | some y => some y | none => _) = _
  rw [h]
theorem nx_mem : ∀ {row : List Int} {p : Int}, p ∈ row → ∃ y, nx row p = some y
  | a :: r, p, h => by
    cases e : nx r p with
    | some y => exact ⟨y, nx_some e⟩
    | none =>
      rcases List.mem_cons.mp h with rfl | h
      · exact ⟨_, by rw [nx_none e, if_pos rfl]⟩
      · obtain ⟨y, hy⟩ := nx_mem h
        rw [e] at hy
        cases hy
theorem headD_mem {a : Int} : ∀ {r : List Int}, r.headD a ∈ a :: r
  | [] => List.mem_cons_self
  | b :: r => List.mem_cons_of_mem _ List.mem_cons_self
theorem mem_nx : ∀ {row : List Int} {p y : Int}, nx row p = some y → p ∈ row ∧ y ∈ row
  | a :: r, p, y, h => by
    cases e : nx r p with
    | some z =>
      rw [nx_some e] at h
      cases h
      obtain ⟨h1, h2⟩ := mem_nx e
      exact ⟨List.mem_cons_of_mem _ h1, List.mem_cons_of_mem _ h2⟩
    | none =>
      rw [nx_none e] at h
      split at h
      · next q =>
        cases h
        subst q
        exact ⟨List.mem_cons_self, headD_mem⟩
      · cases h
/-- the pages by their last visits -/
def dd : List Int → List Int
  | [] => []
  | a :: r => if a ∈ r then dd r else a :: dd r
theorem dd_mem : ∀ {row : List Int} {p : Int}, p ∈ dd row ↔ p ∈ row
  | [], p => Iff.rfl
  | a :: r, p => by
    unfold dd
    split
    · next h =>
      rw [dd_mem (row := r), List.mem_cons]
      exact ⟨fun m => .inr m, fun m => m.elim (fun e => by rw [e]; exact h) id⟩
    · rw [List.mem_cons, List.mem_cons, dd_mem (row := r)]
theorem dd_nodup : ∀ row : List Int, (dd row).Nodup
  | [] => List.nodup_nil
  | a :: r => by
    unfold dd
    split
    · exact dd_nodup r
    · next h => exact List.nodup_cons.mpr ⟨fun m => h (dd_mem.mp m), dd_nodup r⟩
def ix (row : List Int) (p : Int) : Nat := (dd row).idxOf p
theorem ix_lt {row : List Int} {p : Int} (h : p ∈ row) : ix row p < (dd row).length := List.idxOf_lt_length_of_mem (dd_mem.mpr h)
/-- the last page -/
def lst (row : List Int) : Int := row.getLast?.getD 0
theorem lst_cons {a b : Int} {r : List Int} : lst (a :: b :: r) = lst (b :: r) := by unfold lst; rw [List.getLast?_cons_cons]
theorem nx_ix : ∀ {row : List Int} {p y : Int}, nx row p = some y → (y = p ∧ p = lst row) ∨ (p ≠ y ∧ p ≠ lst row ∧ ix row p < ix row y)
  | a :: r, p, y, h => by
    cases e : nx r p with
    | some z =>
      rw [nx_some e] at h
      cases h
      obtain ⟨hp, hy⟩ := mem_nx e
      obtain ⟨b, r', rfl⟩ : ∃ b r', r = b :: r' := by
        cases r with
        | nil => cases hp
        | cons b r' => exact ⟨b, r', rfl⟩
      rw [lst_cons]
      rcases nx_ix e with ⟨h1, h2⟩ | ⟨h1, h2, h3⟩
      · exact .inl ⟨h1, h2⟩
      · refine .inr ⟨h1, h2, ?_⟩
        unfold ix dd
        split
        · exact h3
        · next na =>
          have pa : ¬ a = p := fun e => na (by rw [e]; exact hp)
          have ya : ¬ a = y := fun e => na (by rw [e]; exact hy)
          rw [List.idxOf_cons, List.idxOf_cons, beq_eq_false_iff_ne.mpr pa, beq_eq_false_iff_ne.mpr ya]
          show (dd (b :: r')).idxOf p + 1 < (dd (b :: r')).idxOf y + 1
          unfold ix at h3
          omega
    | none =>
      rw [nx_none e] at h
      split at h
      · next q =>
        subst q
        cases h
        have na : a ∉ r := fun m => by
          obtain ⟨z, hz⟩ := nx_mem m
          rw [e] at hz
          cases hz
        cases r with
        | nil => exact .inl ⟨rfl, rfl⟩
        | cons b r' =>
          have ab : a ≠ b := fun z => na (by rw [z]; exact List.mem_cons_self)
          refine .inr ⟨ab, ?_, ?_⟩
          · rw [lst_cons]
            intro z
            refine na ?_
            rw [z]
            unfold lst
            rw [List.getLast?_eq_some_getLast (by simp)]
            exact List.getLast_mem _
          · unfold ix dd
            rw [if_neg na, List.idxOf_cons_self, List.idxOf_cons, beq_eq_false_iff_ne.mpr (show ¬ a = (b :: r').headD a from ab)]
            exact Nat.succ_pos _
      · cases h
theorem lst_mem : ∀ {row : List Int}, row ≠ [] → lst row ∈ row := fun {row} h => by
  unfold lst
  rw [List.getLast?_eq_some_getLast h]
  exact List.getLast_mem h
theorem nx_lst {row : List Int} (h : row ≠ []) : nx row (lst row) = some (lst row) := by
  obtain ⟨y, hy⟩ := nx_mem (lst_mem h)
  rcases nx_ix hy with ⟨h1, _⟩ | ⟨_, h2, _⟩
  · rw [hy, h1]
  · exact absurd rfl h2
/-- do so many steps lead to the root? -/
def lead (f : Int → Int) (root : Int) : Nat → Int → Bool
  | 0, _ => false
  | n + 1, p => if p = root then true else lead f root n (f p)
def nxt (row : List Int) (p : Int) : Int := (nx row p).getD 0
theorem nxt_at {row : List Int} {p y : Int} (h : nx row p = some y) : nxt row p = y := by unfold nxt; rw [h]; rfl
theorem lead_ok {row : List Int} : ∀ (n : Nat) {p : Int}, p ∈ row → (dd row).length ≤ n + ix row p → lead (nxt row) (lst row) n p = true
  | 0, p, hp, h => by have := ix_lt hp; omega
  | n + 1, p, hp, h => by
    show (if p = lst row then true else _) = true
    split
    · rfl
    · next ne =>
      obtain ⟨y, hy⟩ := nx_mem hp
      rw [nxt_at hy]
      rcases nx_ix hy with ⟨_, h2⟩ | ⟨_, _, h3⟩
      · exact absurd h2 ne
      · exact lead_ok n (mem_nx hy).2 (by omega)
/-! ### as a list of pairs in order -/
def exs (row : List Int) : List (Int × Int) := ((List.range 40).map fun i : Nat => (i : Int)).filterMap fun p => (nx row p).map fun y => (p, y)
theorem mem_exs {row : List Int} (hp : Pg 40 row) {x y : Int} : (x, y) ∈ exs row ↔ nx row x = some y := by
  unfold exs
  rw [List.mem_filterMap]
  constructor
  · rintro ⟨p, _, h⟩
    cases e : nx row p with
    | none => rw [e] at h; cases h
    | some z => rw [e] at h; cases h; exact e
  · intro h
    have hx := hp x (mem_nx h).1
    refine ⟨x, List.mem_map.mpr ⟨x.toNat, List.mem_range.mpr (by omega), by omega⟩, ?_⟩
    rw [h]
    rfl
def ltF (a b : Int × Int) : Prop := a.1 < b.1
theorem exs_srt (row : List Int) : (exs row).Pairwise ltF := by
  unfold exs
  rw [List.pairwise_filterMap]
  have : ((List.range 40).map fun i : Nat => (i : Int)).Pairwise (· < ·) := by
    rw [List.pairwise_map]
    exact List.pairwise_lt_range.imp fun h => by omega
  refine this.imp fun {a b} h x hx y hy => ?_
  have ex : x.1 = a := by
    cases e : nx row a with
    | none => rw [e] at hx; cases hx
    | some z => rw [e] at hx; cases hx; rfl
  have ey : y.1 = b := by
    cases e : nx row b with
    | none => rw [e] at hy; cases hy
    | some z => rw [e] at hy; cases hy; rfl
  show x.1 < y.1
  rw [ex, ey]
  exact h
theorem srt_nodup {l : List (Int × Int)} (h : l.Pairwise ltF) : (l.map (·.1)).Nodup := by
  rw [List.nodup_iff_pairwise_ne, List.pairwise_map]
  exact h.imp fun {a b} h e => by
    have : a.1 < b.1 := h
    omega
/-- two lists in order with the same members -/
theorem srt_uniq : ∀ {l m : List (Int × Int)}, l.Pairwise ltF → m.Pairwise ltF → (∀ q, q ∈ l ↔ q ∈ m) → l = m
  | [], [], _, _, _ => rfl
  | [], b :: m, _, _, h => (List.not_mem_nil ((h b).mpr List.mem_cons_self)).elim
  | a :: l, [], _, _, h => (List.not_mem_nil ((h a).mp List.mem_cons_self)).elim
  | a :: l, b :: m, hl, hm, h => by
    rw [List.pairwise_cons] at hl hm
    have e : a = b := by
      have h1 := (h a).mp List.mem_cons_self
      have h2 := (h b).mpr List.mem_cons_self
      rcases List.mem_cons.mp h1 with h1 | h1
      · exact h1
      · rcases List.mem_cons.mp h2 with h2 | h2
        · exact h2.symm
        · have a1 : b.1 < a.1 := hm.1 a h1
          have a2 : a.1 < b.1 := hl.1 b h2
          omega
    subst e
    have ne : ∀ {k : List (Int × Int)}, (∀ q ∈ k, ltF a q) → a ∉ k := fun hk m => by
      have : a.1 < a.1 := hk a m
      omega
    rw [srt_uniq hl.2 hm.2 fun q => ?_]
    have hq := h q
    rw [List.mem_cons, List.mem_cons] at hq
    by_cases c : q = a
    · subst c
      exact ⟨fun m => absurd m (ne hl.1), fun m => absurd m (ne hm.1)⟩
    · exact ⟨fun m => (hq.mp (.inr m)).resolve_left c, fun m => (hq.mpr (.inr m)).resolve_left c⟩
/-- numbers in order with the same members -/
theorem ints_uniq : ∀ {l m : List Int}, l.Pairwise (· < ·) → m.Pairwise (· < ·) → (∀ q, q ∈ l ↔ q ∈ m) → l = m
  | [], [], _, _, _ => rfl
  | [], b :: m, _, _, h => (List.not_mem_nil ((h b).mpr List.mem_cons_self)).elim
  | a :: l, [], _, _, h => (List.not_mem_nil ((h a).mp List.mem_cons_self)).elim
  | a :: l, b :: m, hl, hm, h => by
    rw [List.pairwise_cons] at hl hm
    have e : a = b := by
      have h1 := (h a).mp List.mem_cons_self
      have h2 := (h b).mpr List.mem_cons_self
      rcases List.mem_cons.mp h1 with h1 | h1
      · exact h1
      · rcases List.mem_cons.mp h2 with h2 | h2
        · exact h2.symm
        · have a1 := hm.1 a h1
          have a2 := hl.1 b h2
          omega
    subst e
    have ne : ∀ {k : List Int}, (∀ q ∈ k, a < q) → a ∉ k := fun hk m => by
      have := hk a m
      omega
    rw [ints_uniq hl.2 hm.2 fun q => ?_]
    have hq := h q
    rw [List.mem_cons, List.mem_cons] at hq
    by_cases c : q = a
    · subst c
      exact ⟨fun m => absurd m (ne hl.1), fun m => absurd m (ne hm.1)⟩
    · exact ⟨fun m => (hq.mp (.inr m)).resolve_left c, fun m => (hq.mpr (.inr m)).resolve_left c⟩
/-! ### a dict of numbers by numbers -/
def getI (qs : List (Int × Int)) (x : Int) : Option Int := (qs.find? fun q => decide (q.1 = x)).map (·.2)
def putI (qs : List (Int × Int)) (x y : Int) : List (Int × Int) := if (qs.any fun q => decide (q.1 = x)) = true then qs.map (fun q => if q.1 = x then (q.1, y) else q) else qs ++ [(x, y)]
theorem getI_val (x : Int) : ∀ qs : List (Int × Int), valV (qs.map itK) (Sum.inl x) = (getI qs x).map V.int
  | [] => rfl
  | q :: qs => by
    have ih := getI_val x qs
    rw [List.map_cons]
    by_cases e : q.1 = x
    · rw [valV_pos (by show (Sum.inl q.1 : Key) = Sum.inl x; rw [e])]
      simp [getI, e, itK]
    · rw [valV_neg (by show ¬ (Sum.inl q.1 : Key) = Sum.inl x; exact fun z => e (Sum.inl.inj z)), ih]
      simp [getI, e]
theorem any_itK (x : Int) (qs : List (Int × Int)) : ((qs.map itK).any fun kv => decide (kv.1 = Sum.inl x)) = qs.any fun q => decide (q.1 = x) := by
  rw [List.any_map]
  congr 1
  funext q
  exact decide_eq_decide.mpr ⟨fun e => Sum.inl.inj e, fun e => congrArg Sum.inl e⟩
theorem putI_put (qs : List (Int × Int)) (x y : Int) : putK (qs.map itK) (Sum.inl x) (.int y) = (putI qs x y).map itK := by
  unfold putK putI
  rw [any_itK]
  by_cases c : (qs.any fun q => decide (q.1 = x)) = true
  · rw [if_pos c, if_pos c, List.map_map, List.map_map]
    refine List.map_congr_left fun q _ => ?_
    show (if (Sum.inl q.1 : Key) = Sum.inl x then ((Sum.inl q.1 : Key), V.int y) else (Sum.inl q.1, V.int q.2)) = itK (if q.1 = x then (q.1, y) else q)
    by_cases e : q.1 = x
    · rw [if_pos (by rw [e]), if_pos e]; rfl
    · rw [if_neg (fun z => e (Sum.inl.inj z)), if_neg e]; rfl
  · rw [if_neg c, if_neg c, List.map_append]
    rfl
theorem getI_any (x : Int) : ∀ qs : List (Int × Int), (qs.any fun q => decide (q.1 = x)) = (getI qs x).isSome
  | [] => rfl
  | q :: qs => by
    rw [List.any_cons, getI_any x qs]
    by_cases e : q.1 = x
    · simp [getI, e]
    · simp [getI, e]
theorem getI_map (x y z : Int) : ∀ qs : List (Int × Int), getI (qs.map fun q => if q.1 = x then (q.1, y) else q) z = if z = x then (getI qs z).map fun _ => y else getI qs z
  | [] => by simp [getI]
  | q :: qs => by
    have ih := getI_map x y z qs
    by_cases e : q.1 = z
    · by_cases c : z = x
      · subst c; simp [getI, e]
      · rw [if_neg c]
        have : ¬ q.1 = x := fun w => c (by rw [← e, w])
        simp [getI, e, this, c]
    · have hk : (if q.1 = x then (q.1, y) else q).1 = q.1 := by split <;> rfl
      have g1 : getI ((q :: qs).map fun q => if q.1 = x then (q.1, y) else q) z = getI (qs.map fun q => if q.1 = x then (q.1, y) else q) z := by
        unfold getI
        rw [List.map_cons, List.find?_cons, hk, decide_eq_false e]
      have g2 : getI (q :: qs) z = getI qs z := by
        unfold getI
        rw [List.find?_cons, decide_eq_false e]
      rw [g1, g2, ih]
theorem getI_append (x y z : Int) (qs : List (Int × Int)) (h : getI qs x = none) : getI (qs ++ [(x, y)]) z = if z = x then some y else getI qs z := by
  unfold getI at h ⊢
  rw [List.find?_append]
  cases c : qs.find? fun q => decide (q.1 = z) with
  | some q =>
    by_cases e : z = x
    · subst e; rw [c] at h; cases h
    · rw [if_neg e]; rfl
  | none =>
    by_cases e : z = x
    · subst e; simp
    · have : ¬ x = z := fun w => e w.symm
      simp [this, e]
theorem getI_put (qs : List (Int × Int)) (x y z : Int) : getI (putI qs x y) z = if z = x then some y else getI qs z := by
  unfold putI
  by_cases c : (qs.any fun q => decide (q.1 = x)) = true
  · rw [if_pos c, getI_map]
    rw [getI_any] at c
    by_cases e : z = x
    · subst e
      rw [if_pos rfl, if_pos rfl]
      cases h : getI qs z with
      | none => rw [h] at c; cases c
      | some v => rfl
    · rw [if_neg e, if_neg e]
  · rw [if_neg c]
    rw [getI_any] at c
    exact getI_append x y z qs (by cases h : getI qs x with | none => rfl | some v => rw [h] at c; exact absurd rfl c)
theorem putI_nodup {qs : List (Int × Int)} {x y : Int} (h : (qs.map (·.1)).Nodup) : ((putI qs x y).map (·.1)).Nodup := by
  unfold putI
  split
  · rw [List.map_map]
    have e : ((fun p : Int × Int => p.1) ∘ fun q : Int × Int => if q.1 = x then (q.1, y) else q) = fun p => p.1 := funext fun p => by
      show (if p.1 = x then (p.1, y) else p).1 = p.1
      split <;> rfl
    rw [e]
    exact h
  · next c =>
    rw [List.map_append, List.nodup_append]
    refine ⟨h, by simp, fun a ha b hb e => ?_⟩
    obtain ⟨p, hp, rfl⟩ := List.mem_map.mp ha
    have hb' : b = x := by simpa using hb
    refine c (List.any_eq_true.mpr ⟨p, hp, decide_eq_true ?_⟩)
    rw [e, hb']
theorem putI_len (qs : List (Int × Int)) (x y : Int) : (putI qs x y).length ≤ qs.length + 1 := by
  unfold putI
  split
  · rw [List.length_map]; omega
  · rw [List.length_append, List.length_singleton]; omega
theorem getI_mem {qs : List (Int × Int)} (nd : (qs.map (·.1)).Nodup) {x y : Int} : (x, y) ∈ qs ↔ getI qs x = some y := by
  induction qs with
  | nil => exact ⟨fun h => (List.not_mem_nil h).elim, fun h => by cases h⟩
  | cons q qs ih =>
    rw [List.map_cons, List.nodup_cons] at nd
    by_cases e : q.1 = x
    · have g : getI (q :: qs) x = some q.2 := by simp [getI, e]
      rw [g]
      constructor
      · intro h
        rcases List.mem_cons.mp h with h | h
        · rw [← h]
        · exact absurd (List.mem_map.mpr ⟨(x, y), h, e.symm⟩) nd.1
      · intro h
        have : q = (x, y) := by
          have := Option.some.inj h
          rw [← e, ← this]
        rw [this]
        exact List.mem_cons_self
    · have g : getI (q :: qs) x = getI qs x := by simp [getI, e]
      rw [g, ← ih nd.2, List.mem_cons]
      exact ⟨fun h => h.resolve_left fun z => e (by rw [← z]), .inr⟩
theorem srt_of {rs qs : List (Int × Int)} (p : rs.Perm qs) (s : rs.Pairwise leP) (nd : (qs.map (·.1)).Nodup) : rs.Pairwise ltF := by
  have nr : (rs.map (·.1)).Nodup := (p.map (·.1)).nodup_iff.mpr nd
  rw [List.nodup_iff_pairwise_ne, List.pairwise_map] at nr
  refine (s.and nr).imp fun {a b} h => ?_
  have h1 : a.1 < b.1 ∨ (a.1 = b.1 ∧ a.2 ≤ b.2) := h.1
  have h2 : a.1 ≠ b.1 := h.2
  show a.1 < b.1
  omega
/-- what a dict of all exits gives when it is sorted -/
theorem srt_exs {row : List Int} (hp : Pg 40 row) {rs qs : List (Int × Int)} (p : rs.Perm qs) (s : rs.Pairwise leP) (nd : (qs.map (·.1)).Nodup) (g : ∀ x, getI qs x = nx row x) : rs = exs row :=
  srt_uniq (srt_of p s nd) (exs_srt row) fun q => by
    obtain ⟨x, y⟩ := q
    rw [mem_exs hp, ← g x, ← getI_mem nd, p.mem_iff]
/-! ### the dict as it is filled from the front -/
def foldP (qs : List (Int × Int)) : List Int → List (Int × Int)
  | [] => qs
  | a :: r => foldP (putI qs a (r.headD a)) r
theorem foldP_get (x : Int) : ∀ (row : List Int) (qs : List (Int × Int)), getI (foldP qs row) x = match nx row x with | some y => some y | none => getI qs x
  | [], qs => rfl
  | a :: r, qs => by
    show getI (foldP (putI qs a (r.headD a)) r) x = _
    rw [foldP_get x r]
    cases e : nx r x with
    | some y => rw [nx_some e]
    | none =>
      rw [nx_none e]
      show getI (putI qs a (r.headD a)) x = _
      rw [getI_put]
      by_cases c : x = a
      · rw [if_pos c, if_pos c.symm]
      · rw [if_neg c, if_neg (fun z => c z.symm)]
theorem foldP_nodup : ∀ (row : List Int) (qs : List (Int × Int)), (qs.map (·.1)).Nodup → ((foldP qs row).map (·.1)).Nodup
  | [], _, h => h
  | a :: r, qs, h => foldP_nodup r _ (putI_nodup h)
theorem foldP_all (row : List Int) (x : Int) : getI (foldP [] row) x = nx row x := by
  rw [foldP_get]
  cases nx row x <;> rfl
/-! ### first page, root, leaves -/
def rootsOf (qs : List (Int × Int)) : List Int := (qs.filter fun q => decide (q.1 = q.2)).map (·.1)
def usedOf (qs : List (Int × Int)) : List Int := (qs.filter fun q => !decide (q.1 = q.2)).map (·.2)
def leavesOf (qs : List (Int × Int)) : List Int := (qs.filter fun q => !decide (q.1 ∈ usedOf qs)).map (·.1)
theorem filter_one {α : Type} {P : α → Bool} {a : α} : ∀ {l : List α}, l.Nodup → a ∈ l → (∀ b ∈ l, P b = true ↔ b = a) → l.filter P = [a]
  | [], _, h, _ => (List.not_mem_nil h).elim
  | b :: l, nd, h, hP => by
    rw [List.nodup_cons] at nd
    rcases List.mem_cons.mp h with e | h
    · subst e
      rw [List.filter_cons_of_pos ((hP a List.mem_cons_self).mpr rfl)]
      congr 1
      rw [List.filter_eq_nil_iff]
      intro c hc pc
      have := (hP c (List.mem_cons_of_mem _ hc)).mp pc
      exact nd.1 (this ▸ hc)
    · have nb : ¬ P b = true := fun pb => by
        have := (hP b List.mem_cons_self).mp pb
        exact nd.1 (this ▸ h)
      rw [List.filter_cons_of_neg nb]
      exact filter_one nd.2 h fun c hc => hP c (List.mem_cons_of_mem _ hc)
theorem srt_nd {l : List (Int × Int)} (h : l.Pairwise ltF) : l.Nodup := by
  rw [List.nodup_iff_pairwise_ne]
  exact h.imp fun {a b} h e => by
    have : a.1 < b.1 := h
    rw [e] at this
    omega
theorem roots_exs {row : List Int} (hp : Pg 40 row) (h : row ≠ []) : rootsOf (exs row) = [lst row] := by
  unfold rootsOf
  rw [filter_one (a := (lst row, lst row)) (srt_nd (exs_srt row)) ((mem_exs hp).mpr (nx_lst h)) fun b hb => ?_]
  · rfl
  · obtain ⟨x, y⟩ := b
    have hx := (mem_exs hp).mp hb
    rw [decide_eq_true_iff]
    constructor
    · intro e
      have e' : x = y := e
      rcases nx_ix hx with ⟨_, h2⟩ | ⟨h1, _⟩
      · rw [← e', h2]
      · exact absurd e' h1
    · intro e
      cases e
      rfl
theorem exs_len {row : List Int} (hp : Pg 40 row) : (exs row).length = (dd row).length := by
  have h1 : ((exs row).map (·.1)).Nodup := srt_nodup (exs_srt row)
  have h2 : ((exs row).map (·.1)).Perm (dd row) := by
    rw [List.perm_ext_iff_of_nodup h1 (dd_nodup row)]
    intro x
    rw [dd_mem]
    constructor
    · intro h
      obtain ⟨⟨a, b⟩, hq, rfl⟩ := List.mem_map.mp h
      exact (mem_nx ((mem_exs hp).mp hq)).1
    · intro h
      obtain ⟨y, hy⟩ := nx_mem h
      exact List.mem_map.mpr ⟨(x, y), (mem_exs hp).mpr hy, rfl⟩
  have := h2.length_eq
  rw [List.length_map] at this
  exact this
theorem exs_len40 (row : List Int) : (exs row).length ≤ 40 := by
  unfold exs
  refine Nat.le_trans (List.length_filterMap_le _ _) ?_
  rw [List.length_map, List.length_range]
  exact Nat.le_refl _
end EF

set_option Elab.async false
set_option linter.all false
set_option maxRecDepth 100000
set_option maxHeartbeats 4000000
/-! sorted(set(xs)), len(set(xs)) of a longer list of numbers, with doubles -/
namespace BC
open PySem PySem.Spec PyProof.Rows L2 Evl RZ
theorem sub_len : ∀ {a b : List Int}, a.Nodup → (∀ x ∈ a, x ∈ b) → a.length ≤ b.length
  | [], _, _, _ => Nat.zero_le _
  | x :: a, b, nd, h => by
    rw [List.nodup_cons] at nd
    have hx := h x List.mem_cons_self
    have ih := sub_len (a := a) (b := b.erase x) nd.2 fun y hy => (List.mem_erase_of_ne (fun e => nd.1 (by rw [← e]; exact hy))).mpr (h y (List.mem_cons_of_mem _ hy))
    rw [List.length_erase_of_mem hx] at ih
    have := List.length_pos_of_mem hx
    rw [List.length_cons]
    omega
theorem dup_len {a b : List Int} (nd : a.Nodup) (h : ∀ x ∈ a, x ∈ b) (g : ∀ x ∈ b, x ∈ a) (e : a.length = b.length) : b.Nodup := by
  induction b generalizing a with
  | nil => exact List.nodup_nil
  | cons y b ih =>
    have hy := g y List.mem_cons_self
    have el := List.length_erase_of_mem hy
    have pos := List.length_pos_of_mem hy
    by_cases q : y ∈ b
    · have : a.length ≤ b.length := sub_len nd fun x hx => by
        rcases List.mem_cons.mp (h x hx) with rfl | m
        · exact q
        · exact m
      rw [List.length_cons] at e
      omega
    · rw [List.nodup_cons]
      refine ⟨q, ih (a := a.erase y) (nd.erase y) (fun x hx => ?_) (fun x hx => ?_) ?_⟩
      · have hne := (List.Nodup.mem_erase_iff nd).mp hx
        rcases List.mem_cons.mp (h x hne.2) with rfl | m
        · exact absurd rfl hne.1
        · exact m
      · exact (List.Nodup.mem_erase_iff nd).mpr ⟨fun z => q (by rw [← z]; exact hx), g x (List.mem_cons_of_mem _ hx)⟩
      · rw [List.length_cons] at e
        omega
theorem range_len {a : List Int} {m : Nat} (nd : a.Nodup) (h : ∀ x ∈ a, 0 ≤ x ∧ x < m) : a.length ≤ m := by
  have := sub_len (b := (List.range m).map fun i : Nat => (i : Int)) nd fun x hx => by
    have := h x hx
    exact List.mem_map.mpr ⟨x.toNat, List.mem_range.mpr (by omega), by show ((x.toNat : Nat) : Int) = x; omega⟩
  rw [List.length_map, List.length_range] at this
  exact this
section
variable {w : World} {h : Heap} {a : Addr} {S : Int → Bool} {n m : Nat}
theorem setR_few (R : SetR w h a S n) (hb : ∀ k, S k = true → 0 ≤ k ∧ k < m) : n ≤ m := by
  obtain ⟨o, es, ep, t, ho, hex, hd, g, nd, hm, hbd, hf, hn, hr, hl⟩ := R
  have := range_len (m := m) nd fun x hx => hb x ((hm x).mpr hx)
  rw [List.length_map, Array.length_toList] at this
  omega
theorem setR_count {ns : List Int} (R : SetR w h a (fun j => decide (j ∈ ns)) n) : n = ns.length ↔ ns.Nodup := by
  obtain ⟨o, es, ep, t, ho, hex, hd, g, nd, hm, hbd, hf, hn, hr, hl⟩ := R
  have sub : ∀ x ∈ es.toList.map keyOf, x ∈ ns := fun x hx => of_decide_eq_true ((hm x).mpr hx)
  have sup : ∀ x ∈ ns, x ∈ es.toList.map keyOf := fun x hx => (hm x).mp (decide_eq_true hx)
  have e1 : (es.toList.map keyOf).length = n := by rw [List.length_map, Array.length_toList]; exact hn
  constructor
  · intro e
    exact dup_len nd sub sup (by rw [e1]; exact e)
  · intro q
    have := sub_len q sup
    have := sub_len nd sub
    omega
end
section
variable {X : Cx} {K : PySem.W.Frag} {a : Expr} {ta : TE} {p p2 q pos : Pos}
/-- sorted(set(xs)): numbers below 60, as many as there are -/
def tSortSetB (K : PySem.W.Frag) (ta : TE) : TE := fun σ H Q => ta σ H fun x H1 => ∃ (l : Addr) (ns : List Int), x = .ref l ∧ SqL K H1 l (ns.map V.int) ∧ ns.length ≤ 4000 ∧ (∀ k ∈ ns, 0 ≤ k ∧ k < (60 : Nat)) ∧
  ∀ (ms : List Int) r, ms.Pairwise (· < ·) → (∀ k : Int, k ∈ ms ↔ k ∈ ns) → H1 r = none → Q (.ref r) (upd H1 r (.lst (ms.map V.int)))
theorem k_sortSetB (hK : X.K = K) (hg : Gl X "sorted") (hm : X.mg "sorted" = none) (hg2 : Gl X "set") (hm2 : X.mg "set" = none) (ha : PE X a ta) (hc : X.calm = true := by rfl)
    (na : starEach [a] X.env = (false, eval a X.env) :: starEach [] X.env := by rfl) : PE X (.Call (.Name "sorted" p) [.Call (.Name "set" p2) [a] [] q] [] pos) (tSortSetB K ta) := by
  subst hK
  refine ⟨fun pins s σ H Q I h => ?_⟩
  refine Call_ (ld_blt I hg hm (show bootBuiltins ("sorted" : Str) = some (.builtin "sorted") by decide +kernel) ?_)
  refine callWith_builtin1 (args_cons ?_ rfl) rfl rfl
  refine Call_ (ld_blt I hg2 hm2 boot_set ?_)
  refine callWith_type1 (args_cons (thn (ha.run pins s σ H _ I h) fun v s1 ⟨x, H1, I1, r1, q1⟩ => args_nil ?_) na) na rfl
  obtain ⟨l, ns, rfl, hq, hl, hb, q1⟩ := q1
  cases r1
  obtain ⟨its, r, pl, hz⟩ := I1.list hq
  refine set_of_list ns (I1.ok.hd hc) pl.isList (by simpa using intsAre_vals r) (by unfold scanBound; omega) fun h' tk c hS hcl hk => ?_
  refine args_nil ?_
  have I2 : Inv X pins σ H1 { s1 with heap := h', toks := tk } := I1.kept hk
  have few60 := setR_few (m := 60) hS fun k hk => hb k (of_decide_eq_true hk)
  refine sorted_set hS (I2.ok.hd hc) (by omega) fun s' p out c2 ms k g o hp hg hi hs hm hlen => ?_
  have few : (ms.map V.int).length ≤ sizeLine := by rw [List.length_map, hlen, sizeLine_eq]; omega
  have hn : H1 p = none := I2.hok.fresh hp
  have J : Inv X pins σ (upd H1 p (.lst (ms.map V.int))) { ({ s1 with heap := h', toks := tk } : Shared) with heap := s'.heap, gens := s'.gens, drawn := s'.drawn, toks := s'.toks } :=
    I2.call (ch := []) (Un.laid k hp hn) (I2.hok.laid k hp ⟨few, out.toList, c2, vals_of_ints hi, hg⟩) (by rw [g]; exact I2.bare) (fun _ z => nomatch z)
  have e : s' = { ({ s1 with heap := h', toks := tk } : Shared) with heap := s'.heap, gens := s'.gens, drawn := s'.drawn, toks := s'.toks } := by
    cases s'
    cases o
    rfl
  rw [e]
  exact ⟨.ref p, _, J, rfl, q1 ms p hs (fun k => by rw [hm k, decide_eq_true_eq]) hn⟩
theorem x_sortSetB {σ : L2.St} {H : Hp} {Q : VK} : tSortSetB K ta σ H Q = ta σ H fun x H1 => ∃ (l : Addr) (ns : List Int), x = .ref l ∧ SqL K H1 l (ns.map V.int) ∧ ns.length ≤ 4000 ∧ (∀ k ∈ ns, 0 ≤ k ∧ k < (60 : Nat)) ∧
  ∀ (ms : List Int) r, ms.Pairwise (· < ·) → (∀ k : Int, k ∈ ms ↔ k ∈ ns) → H1 r = none → Q (.ref r) (upd H1 r (.lst (ms.map V.int))) := rfl
/-- len(set(xs)): as many as the list has just where nothing stands twice -/
def tLenSetA (K : PySem.W.Frag) (ta : TE) : TE := fun σ H Q => ta σ H fun x H1 => ∃ (l : Addr) (ns : List Int), x = .ref l ∧ SqL K H1 l (ns.map V.int) ∧ ns.length ≤ 4000 ∧ ∀ n : Nat, (n = ns.length ↔ ns.Nodup) → n ≤ ns.length → Q (.int (n : Nat)) H1
theorem k_lenSetA (hK : X.K = K) (hg : Gl X "len") (hm : X.mg "len" = none) (hg2 : Gl X "set") (hm2 : X.mg "set" = none) (ha : PE X a ta) (hc : X.calm = true := by rfl)
    (na : starEach [a] X.env = (false, eval a X.env) :: starEach [] X.env := by rfl) : PE X (.Call (.Name "len" p) [.Call (.Name "set" p2) [a] [] q] [] pos) (tLenSetA K ta) := by
  subst hK
  refine ⟨fun pins s σ H Q I h => ?_⟩
  refine Call_ (ld_blt I hg hm boot_len ?_)
  refine callWith_builtin1 (args_cons ?_ rfl) rfl rfl
  refine Call_ (ld_blt I hg2 hm2 boot_set ?_)
  refine callWith_type1 (args_cons (thn (ha.run pins s σ H _ I h) fun v s1 ⟨x, H1, I1, r1, q1⟩ => args_nil ?_) na) na rfl
  obtain ⟨l, ns, rfl, hq, hl, q1⟩ := q1
  cases r1
  obtain ⟨its, r, pl, hz⟩ := I1.list hq
  refine set_of_list ns (I1.ok.hd hc) pl.isList (by simpa using intsAre_vals r) (by unfold scanBound; omega) fun h' tk c hS hcl hk => ?_
  refine args_nil ?_
  have I2 : Inv X pins σ H1 { s1 with heap := h', toks := tk } := I1.kept hk
  have cnt := setR_count hS
  obtain ⟨o, es, ep, t, ho, hex, hd, _, _, _, hbd, hf, hn, _, _⟩ := hS
  exact call_len_set ho hex hd hf (by rw [hn]; omega) ⟨.int c, H1, I2.tok _, ⟨_, by rw [hn]⟩, q1 c cnt hcl⟩
theorem x_lenSetA {σ : L2.St} {H : Hp} {Q : VK} : tLenSetA K ta σ H Q = ta σ H fun x H1 => ∃ (l : Addr) (ns : List Int), x = .ref l ∧ SqL K H1 l (ns.map V.int) ∧ ns.length ≤ 4000 ∧ ∀ n : Nat, (n = ns.length ↔ ns.Nodup) → n ≤ ns.length → Q (.int (n : Nat)) H1 := rfl
end
end BC

set_option Elab.async false
set_option linter.all false
set_option maxRecDepth 100000
set_option maxHeartbeats 4000000
/-! repr of anything that is shown: numbers, texts, None, lists, tuples, empty dicts, at any depth -/
namespace BC
open PySem PySem.Spec PyProof.Rows L2 Evl
mutual
inductive De (K : PySem.W.Frag) (H : Hp) : V → PyData → Prop
  | non : De K H .non .none
  | bl (b : Bool) : De K H (.bl b) (.bool b)
  | int (i : Int) : De K H (.int i) (.int i)
  | str (x : Str) : De K H (.str x) (.str x)
  | lst {a : Addr} {xs : List V} {ds : List PyData} : SqL K H a xs → DeAll K H xs ds → De K H (.ref a) (.list ds)
  | tup {a : Addr} {xs : List V} {ds : List PyData} : SqT K H a xs → DeAll K H xs ds → De K H (.ref a) (.tuple ds)
  | dic {a : Addr} : H a = some (.dK []) → De K H (.ref a) (.dict [])
inductive DeAll (K : PySem.W.Frag) (H : Hp) : List V → List PyData → Prop
  | nil : DeAll K H [] []
  | cons {v : V} {vs : List V} {d : PyData} {ds : List PyData} : De K H v d → DeAll K H vs ds → DeAll K H (v :: vs) (d :: ds)
end
section
variable {X : Cx} {pins : List (Addr × Obj)} {σ : L2.St} {H : Hp} {s : Shared}
/-- what is known of a value that is shown -/
def Shows (X : Cx) (s : Shared) (u : Value) (d : PyData) : Prop :=
  (∃ as, Reads s.heap u d as) ∧ ∃ bs, ReadAtMost s.heap d.depth bs ∧ ReprK X.prog X.w bs s.heap d.depth u d.shown
def ShowsAll (X : Cx) (s : Shared) (us : List Value) (ds : List PyData) : Prop :=
  (∃ as, ReadsAll s.heap us ds as) ∧ ∃ bs, ReadAtMost s.heap (PyData.depthAll ds) bs ∧ ReprAllK X.prog X.w bs s.heap (PyData.depthAll ds) us (PyData.shownAll ds)
theorem empty_dict (I : Inv X pins σ H s) {a : Addr} (e : H a = some (.dK [])) : (a == sysModules) = false ∧ ∃ o n, s.heap.get? a = some o ∧ o.cls = .type "dict" ∧ o.data = .dict #[] n := by
  obtain ⟨_, hs, vs, kv, o, es, ep, ho, hx, hd, _, hm, _⟩ := dk_of I.hok e
  cases kv
  have he : es = #[] := by
    obtain ⟨l⟩ := es
    cases l with
    | nil => rfl
    | cons y l => cases hm
  subst he
  exact ⟨hs, o, ep, ho, hx.1, hd⟩
mutual
theorem De.shows (I : Inv X pins σ H s) : ∀ (d : PyData) (v : V) (u : Value), De X.K H v d → RelV v u → d.showable = true → d.shown.length ≤ sizeLine → Shows X s u d
  | .none, _, _, h, r, _, _ => by
    cases h; cases r
    exact ⟨⟨_, .none⟩, [], (fun _ m => nomatch m), by rw [show PyData.shown .none = ("None" : Str) by simp only [PyData.shown]]; exact .of_is ReprIs.none _ _ _⟩
  | .bool b, _, _, h, r, _, _ => by
    cases h; cases r
    exact ⟨⟨_, .bool b⟩, [], (fun _ m => nomatch m), by simp only [PyData.shown]; exact .of_is (ReprIs.bool b) _ _ _⟩
  | .int i, _, _, h, r, hs, _ => by
    cases h
    obtain ⟨t, rfl⟩ := r
    have h1 : i.natAbs.log2 < 1920 := by simpa [PyData.showable] using hs
    exact ⟨⟨_, .int i t⟩, [], (fun _ m => nomatch m), by simp only [PyData.shown]; exact .of_is (ReprIs.int t h1) _ _ _⟩
  | .str x, _, _, h, r, _, hz => by
    cases h
    obtain ⟨t, rfl⟩ := r
    simp only [PyData.shown] at hz
    exact ⟨⟨_, .str x t⟩, [], (fun _ m => nomatch m), by simp only [PyData.shown]; exact .of_is (ReprIs.str x t hz) _ _ _⟩
  | .list ds, _, _, h, r, hs, hz => by
    cases h with
    | lst hl ha =>
      cases r
      obtain ⟨its, rv, ⟨o, n, ho, hc, _, hd⟩, _⟩ := I.list hl
      simp only [PyData.shown] at hz
      simp only [PyData.showable] at hs
      obtain ⟨⟨as, hr⟩, bs, hb, hk⟩ := DeAll.shows I ds _ its ha rv hs fun t ht => Nat.le_trans (listText_mem_le ht) hz
      have r1 : Reads s.heap _ (.list ds) _ := .list ho hc hd hr
      have na := not_mem_of_deeper r1 (show PyData.depthAll ds < PyData.depth (.list ds) by simp only [PyData.depth]; omega) hb
      refine ⟨⟨_, r1⟩, _ :: bs, ReadAtMost.cons r1 (by simp only [PyData.depth]; omega) hb, ?_⟩
      simp only [PyData.depth, PyData.shown]
      cases its with
      | nil =>
        cases hr
        simp only [PyData.shownAll, listText_nil]
        exact ReprK.listEmpty ho hc hd
      | cons y l => exact ReprK.list ho hc hd na (by simpa using hk.length_eq) (fun i y e => hk.item i y (by simpa using e))
  | .tuple ds, _, _, h, r, hs, hz => by
    cases h with
    | tup hl ha =>
      cases r
      obtain ⟨its, rv, ⟨o, ho, hc, n, hd⟩, _⟩ := I.tuple hl
      simp only [PyData.shown] at hz
      simp only [PyData.showable] at hs
      obtain ⟨⟨as, hr⟩, bs, hb, hk⟩ := DeAll.shows I ds _ its ha rv hs fun t ht => Nat.le_trans (tupleText_mem_le ht) hz
      have r1 : Reads s.heap _ (.tuple ds) _ := .tuple ho hc hd hr
      have na := not_mem_of_deeper r1 (show PyData.depthAll ds < PyData.depth (.tuple ds) by simp only [PyData.depth]; omega) hb
      refine ⟨⟨_, r1⟩, _ :: bs, ReadAtMost.cons r1 (by simp only [PyData.depth]; omega) hb, ?_⟩
      simp only [PyData.depth, PyData.shown]
      exact ReprK.tuple ho hc hd na hk
  | .dict kvs, _, _, h, r, hs, hz => by
    cases h with
    | dic e =>
      cases r
      obtain ⟨hsys, o, n, ho, hc, hd⟩ := empty_dict I e
      have r1 : Reads s.heap _ (.dict []) _ := .dict (kvs := []) ho hc hd .nil .nil
      refine ⟨⟨_, r1⟩, [_], ReadAtMost.cons r1 (Nat.zero_le _) (fun _ m => nomatch m), ?_⟩
      simp only [PyData.depth, PyData.shown, PyData.shownKv, PyData.depthKv]
      exact ReprK.dict ho hc hd hsys List.not_mem_nil .nil
theorem DeAll.shows (I : Inv X pins σ H s) : ∀ (ds : List PyData) (vs : List V) (us : List Value), DeAll X.K H vs ds → Vals vs us → PyData.showableAll ds = true → (∀ t ∈ PyData.shownAll ds, t.length ≤ sizeLine) → ShowsAll X s us ds
  | [], _, _, h, r, _, _ => by
    cases h; cases r
    exact ⟨⟨_, .nil⟩, [], (fun _ m => nomatch m), by simp only [PyData.shownAll]; exact .nil⟩
  | d :: ds, _, _, h, r, hs, hz => by
    cases h with
    | cons h1 h2 =>
      cases r with
      | cons r1 r2 =>
        have hs2 : d.showable = true ∧ PyData.showableAll ds = true := by simpa [PyData.showableAll] using hs
        obtain ⟨⟨as, q1⟩, b1, c1, k1⟩ := De.shows I d _ _ h1 r1 hs2.1 (hz _ (by simp only [PyData.shownAll]; exact List.mem_cons_self))
        obtain ⟨⟨as2, q2⟩, b2, c2, k2⟩ := DeAll.shows I ds _ _ h2 r2 hs2.2 (fun t ht => hz t (by simp only [PyData.shownAll]; exact List.mem_cons_of_mem _ ht))
        refine ⟨⟨_, .cons q1 q2⟩, b1 ++ b2, ReadAtMost.append (c1.mono ?_) (c2.mono ?_), ?_⟩
        · simp only [PyData.depthAll]; omega
        · simp only [PyData.depthAll]; omega
        · simp only [PyData.depthAll, PyData.shownAll]
          exact .cons ((k1.more fun b m => List.mem_append_left _ m).level_le (by omega)) (k2.more_le (fun b m => List.mem_append_right _ m) (by omega))
end
def rReprA (K : PySem.W.Frag) : List V → Hp → VK → Prop := fun xs H Q => ∃ v d, xs = [v] ∧ De K H v d ∧ d.showable = true ∧ d.depth ≤ 60 ∧ d.shown.length ≤ sizeLine ∧ Q (.str d.shown) H
theorem k_reprA {K : PySem.W.Frag} (hK : X.K = K) (g : G0 X.A) (hu : X.A.units + 64 < cLine) : CallR X (.builtin "repr") (rReprA K) := by
  subst hK
  intro pins s σ H xs us Q I r h
  obtain ⟨v, d, rfl, hd, h1, h2, h4, q⟩ := h
  obtain ⟨u, rfl, ru⟩ := vals1 r
  have fin : ∀ (h' : Heap) (t tk : Nat), (∀ b o, s.heap.get? b = some o → h'.get? b = some o) → EP X pins σ Q (.str d.shown t) { s with heap := h', toks := tk } := fun h' t tk hk => ⟨.str _, H, I.kept hk, ⟨_, rfl⟩, q⟩
  cases hd with
  | non =>
    cases ru
    simp only [PyData.shown] at fin
    exact P.repr_of_none (fin s.heap _ _ fun _ _ e => e)
  | bl b =>
    cases ru
    simp only [PyData.shown] at fin
    exact P.repr_of_bool (fin s.heap _ _ fun _ _ e => e)
  | int i =>
    obtain ⟨t, rfl⟩ := ru
    simp only [PyData.shown] at fin
    exact P.repr_of_int (by simpa [PyData.showable] using h1) (fin s.heap _ _ fun _ _ e => e)
  | str x =>
    obtain ⟨t, rfl⟩ := ru
    simp only [PyData.shown] at fin h4
    exact P.repr_of_str (fin s.heap _ _ fun _ _ e => e) h4
  | @lst a ys ds hl ha =>
    cases ru
    obtain ⟨its, rv, ⟨o, n, ho, hc, _, hd⟩, _⟩ := I.list hl
    simp only [PyData.shown] at h4 fin
    simp only [PyData.showable] at h1
    simp only [PyData.depth] at h2
    obtain ⟨⟨as, hr⟩, bs, hb, hk⟩ := DeAll.shows I ds _ its ha rv h1 fun t ht => Nat.le_trans (listText_mem_le ht) h4
    have r1 : Reads s.heap _ (.list ds) _ := .list ho hc hd hr
    have na := not_mem_of_deeper r1 (show PyData.depthAll ds < PyData.depth (.list ds) by simp only [PyData.depth]; omega) hb
    refine call_repr_slot (by omega) ⟨o, ho, hc⟩ PySem.F.slot_list_repr.toG ?_
    cases its with
    | nil =>
      cases hr
      simp only [PyData.shownAll, listText_nil] at fin
      exact call_list_repr_empty ⟨o, ho, hc⟩ ho hd ⟨_, _, rfl, fin s.heap _ _ fun _ _ e => e⟩
    | cons y l => exact call_list_reprK ho hc hd na (by simpa using hk.length_eq) (fun i y e => hk.item i y (by simpa using e)) g (fun b _ => Clear.nil b) (by show X.A.units + 1 + _ < cLine; omega) (fun _ _ e => e) (fun h' u tk k => ⟨_, _, rfl, fin h' u tk k⟩) h4
  | @tup a ys ds hl ha =>
    cases ru
    obtain ⟨its, rv, ⟨o, ho, hc, n, hd⟩, _⟩ := I.tuple hl
    simp only [PyData.shown] at h4 fin
    simp only [PyData.showable] at h1
    simp only [PyData.depth] at h2
    obtain ⟨⟨as, hr⟩, bs, hb, hk⟩ := DeAll.shows I ds _ its ha rv h1 fun t ht => Nat.le_trans (tupleText_mem_le ht) h4
    have r1 : Reads s.heap _ (.tuple ds) _ := .tuple ho hc hd hr
    have na := not_mem_of_deeper r1 (show PyData.depthAll ds < PyData.depth (.tuple ds) by simp only [PyData.depth]; omega) hb
    refine call_repr_slot (by omega) ⟨o, ho, hc⟩ PySem.F.slot_tuple_repr ?_
    exact call_tuple_reprK ho hc hd na hk g (fun b _ => Clear.nil b) (by show X.A.units + 1 + _ < cLine; omega) (fun _ _ e => e) (fun h' u tk k => ⟨_, _, rfl, fin h' u tk k⟩) h4
  | dic e =>
    cases ru
    obtain ⟨hsys, o, n, ho, hc, hd⟩ := empty_dict I e
    simp only [PyData.shown, PyData.shownKv] at h4 fin
    refine call_repr_slot (by omega) ⟨o, ho, hc⟩ PySem.F.slot_dict_repr ?_
    exact call_dict_reprK (as := []) (d := 0) ho hc hd hsys List.not_mem_nil .nil g (fun b _ => Clear.nil b) (by show X.A.units + 1 + _ < cLine; omega) (fun _ _ e => e) (fun h' u tk k => ⟨_, _, rfl, fin h' u tk k⟩) h4
end
/-! ### what is shown stays so, its type, its size -/
section
variable {K : PySem.W.Frag} {H H' : Hp} {Q : VK}
mutual
theorem De.ex (e : Ex H H') : ∀ (d : PyData) (v : V), De K H v d → De K H' v d
  | .none, _, h => by cases h; exact .non
  | .bool _, _, h => by cases h; exact .bl _
  | .int _, _, h => by cases h; exact .int _
  | .str _, _, h => by cases h; exact .str _
  | .dict _, _, h => by
    cases h with
    | dic h1 => exact .dic (e _ _ h1)
  | .list ds, _, h => by
    cases h with
    | lst h1 h2 => exact .lst (ex_l e h1) (DeAll.ex e ds _ h2)
  | .tuple ds, _, h => by
    cases h with
    | tup h1 h2 => exact .tup (ex_t e h1) (DeAll.ex e ds _ h2)
theorem DeAll.ex (e : Ex H H') : ∀ (ds : List PyData) (vs : List V), DeAll K H vs ds → DeAll K H' vs ds
  | [], _, h => by cases h; exact .nil
  | d :: ds, _, h => by
    cases h with
    | cons h1 h2 => exact .cons (De.ex e d _ h1) (DeAll.ex e ds _ h2)
end
theorem De.ty {v : V} {d : PyData} (h : De K H v d) : TyX K H v (.type (tyn d)) := by
  cases h with
  | non => exact .base .non
  | bl b => exact .base (.bl b)
  | int i => exact .base (.int i)
  | str x => exact .base (.str x)
  | lst h _ => exact tyx_l h
  | tup h _ => exact tyx_t h
  | dic h => exact .base (.dK h)
theorem de_ints (ns : List Int) : DeAll K H (ns.map V.int) (ns.map PyData.int) := by
  induction ns with
  | nil => exact .nil
  | cons n ns ih => exact .cons (.int n) ih
theorem DeAll.len {vs : List V} {ds : List PyData} (h : DeAll K H vs ds) : vs.length = ds.length := by
  induction ds generalizing vs with
  | nil => cases h; rfl
  | cons d ds ih =>
    cases h with
    | cons _ h2 => simp [ih h2]
theorem DeAll.at {vs : List V} {ds : List PyData} (h : DeAll K H vs ds) {i : Nat} {v : V} (hv : vs[i]? = some v) : ∃ d, ds[i]? = some d ∧ De K H v d := by
  induction ds generalizing vs i with
  | nil => cases h; simp at hv
  | cons d ds ih =>
    cases h with
    | cons h1 h2 =>
      cases i with
      | zero => cases hv; exact ⟨d, rfl, h1⟩
      | succ i => exact ih h2 (by simpa using hv)
theorem DeAll.app {vs ws : List V} {ds es : List PyData} (h : DeAll K H vs ds) (g : DeAll K H ws es) : DeAll K H (vs ++ ws) (ds ++ es) := by
  induction ds generalizing vs with
  | nil => cases h; exact g
  | cons d ds ih =>
    cases h with
    | cons h1 h2 => exact .cons h1 (ih h2)
/-- shown in few signs -/
structure Gd (n W : Nat) (d : PyData) : Prop where
  s : d.showable = true
  l : d.leavesShort 40 = true
  dp : d.depth ≤ n
  w : d.weight ≤ W
theorem Gd.mono {n W n2 W2 : Nat} {d : PyData} (h : Gd n W d) (a : n ≤ n2) (b : W ≤ W2) : Gd n2 W2 d := ⟨h.s, h.l, Nat.le_trans h.dp a, Nat.le_trans h.w b⟩
theorem Gd.non : Gd 0 0 .none := ⟨rfl, rfl, Nat.le_refl _, Nat.le_refl _⟩
theorem Gd.bl (b : Bool) : Gd 0 0 (.bool b) := ⟨rfl, rfl, Nat.le_refl _, Nat.le_refl _⟩
theorem Gd.dic : Gd 1 0 (.dict []) := ⟨by simp [PyData.showable, PyData.showableKv], by simp [PyData.leavesShort, PyData.leavesShortKv], by simp [PyData.depth, PyData.depthKv], by simp [PyData.weight, PyData.weightKv]⟩
theorem Gd.int {i : Int} (h : i.natAbs < 10 ^ 38) : Gd 0 130 (.int i) := by
  have h2 : i.natAbs < 2 ^ 130 := Nat.lt_trans h (by decide +kernel)
  have hl : i.natAbs.log2 < 130 := log2_small (by decide) h2
  refine ⟨?_, ?_, Nat.le_refl _, ?_⟩
  · show decide (i.natAbs.log2 < 1920) = true
    exact decide_eq_true (by omega)
  · show decide ((PyData.shown (.int i)).length ≤ 40) = true
    refine decide_eq_true ?_
    have e := int_text_length_le10 (k := 38) (by decide) h
    simp only [PyData.shown]
    rw [show ((toString i : String) : Str).length = (toString i).length from PySem.ofString_length _]
    omega
  · simp only [PyData.weight]
    split
    · omega
    · omega
theorem Gd.str {x : Str} (h : (PyData.str x).leavesShort 40 = true) : Gd 0 x.cps.size (.str x) := ⟨rfl, h, Nat.le_refl _, by simp only [PyData.weight]; exact Nat.le_refl _⟩
theorem gd_all {ds : List PyData} {n W : Nat} (h : ∀ d ∈ ds, Gd n W d) : PyData.showableAll ds = true ∧ PyData.leavesShortAll 40 ds = true ∧ PyData.depthAll ds ≤ n ∧ PyData.weightAll ds ≤ (W + 1) * ds.length := by
  induction ds with
  | nil => exact ⟨rfl, rfl, Nat.zero_le _, Nat.zero_le _⟩
  | cons d ds ih =>
    have a := h d List.mem_cons_self
    obtain ⟨b1, b2, b3, b4⟩ := ih fun e m => h e (List.mem_cons_of_mem _ m)
    have := a.dp
    have := a.w
    simp only [PyData.showableAll, PyData.leavesShortAll, PyData.depthAll, PyData.weightAll, List.length_cons, Nat.mul_add, a.s, a.l, b1, b2, Bool.and_self]
    exact ⟨trivial, trivial, by omega, by omega⟩
theorem Gd.list {ds : List PyData} {n W : Nat} (h : ∀ d ∈ ds, Gd n W d) : Gd (n + 1) ((W + 1) * ds.length) (.list ds) := by
  obtain ⟨b1, b2, b3, b4⟩ := gd_all h
  exact ⟨by simp only [PyData.showable]; exact b1, by simp only [PyData.leavesShort]; exact b2, by simp only [PyData.depth]; omega, by simp only [PyData.weight]; exact b4⟩
theorem Gd.tuple {ds : List PyData} {n W : Nat} (h : ∀ d ∈ ds, Gd n W d) : Gd (n + 1) ((W + 1) * ds.length) (.tuple ds) := by
  obtain ⟨b1, b2, b3, b4⟩ := gd_all h
  exact ⟨by simp only [PyData.showable]; exact b1, by simp only [PyData.leavesShort]; exact b2, by simp only [PyData.depth]; omega, by simp only [PyData.weight]; exact b4⟩
theorem Gd.fits {n W : Nat} {d : PyData} (h : Gd n W d) (hW : W ≤ 370000) : d.shown.length ≤ sizeLine := by
  have a := PyData.shown_le 40 (by decide) d h.l
  have b := h.w
  rw [sizeLine_eq]
  omega
theorem reprA {v : V} {d : PyData} {n W : Nat} (h : De K H v d) (g : Gd n W d) (hn : n ≤ 60) (hW : W ≤ 370000) (q : Q (.str d.shown) H) : rReprA K [v] H Q :=
  ⟨v, d, rfl, h, g.s, Nat.le_trans g.dp hn, g.fits hW, q⟩
end
/-! ### values that are shown in few signs; one address hidden -/
def hidB (b : Addr) (H : Hp) : Hp := fun a => if a = b then none else H a
theorem hid_ex {b : Addr} {H : Hp} : Ex (hidB b H) H := fun a o h => by
  unfold hidB at h
  split at h
  · cases h
  · exact h
theorem hid_ne {b a : Addr} {H : Hp} (n : a ≠ b) : hidB b H a = H a := by
  unfold hidB
  rw [if_neg n]
theorem hid_fx {b : Addr} {H H' : Hp} (f : Fx b H H') : Ex (hidB b H) (hidB b H') := fun a o h => by
  unfold hidB at h ⊢
  by_cases e : a = b
  · rw [if_pos e] at h; cases h
  · rw [if_neg e] at h ⊢
    exact f a o e h
theorem hid_of {b : Addr} {H H' : Hp} (e : Ex H H') : Ex (hidB b H) (hidB b H') := hid_fx (fun a o _ h => e a o h)
def Sv (K : PySem.W.Frag) (H : Hp) (n W : Nat) (v : V) : Prop := ∃ d, De K H v d ∧ Gd n W d
section
variable {K : PySem.W.Frag} {H H' : Hp} {Q : VK} {n W : Nat} {v : V}
theorem Sv.ex (h : Sv K H n W v) (e : Ex H H') : Sv K H' n W v := by
  obtain ⟨d, a, g⟩ := h
  exact ⟨d, De.ex e d v a, g⟩
theorem Sv.mono {n2 W2 : Nat} (h : Sv K H n W v) (a : n ≤ n2) (b : W ≤ W2) : Sv K H n2 W2 v := by
  obtain ⟨d, x, g⟩ := h
  exact ⟨d, x, g.mono a b⟩
theorem Sv.non : Sv K H n W .non := ⟨_, .non, Gd.non.mono (Nat.zero_le _) (Nat.zero_le _)⟩
theorem Sv.bl (b : Bool) : Sv K H n W (.bl b) := ⟨_, .bl b, (Gd.bl b).mono (Nat.zero_le _) (Nat.zero_le _)⟩
theorem Sv.int {i : Int} (h : i.natAbs < 10 ^ 38) (hW : 130 ≤ W) : Sv K H n W (.int i) := ⟨_, .int i, (Gd.int h).mono (Nat.zero_le _) hW⟩
theorem Sv.str {x : Str} (h : (PyData.str x).leavesShort 40 = true) (hW : x.cps.size ≤ W) : Sv K H n W (.str x) := ⟨_, .str x, (Gd.str h).mono (Nat.zero_le _) hW⟩
theorem Sv.dic {a : Addr} (h : H a = some (.dK [])) (hn : 1 ≤ n) : Sv K H n W (.ref a) := ⟨_, .dic h, Gd.dic.mono hn (Nat.zero_le _)⟩
theorem sv_all {xs : List V} (h : ∀ x ∈ xs, Sv K H n W x) : ∃ ds, DeAll K H xs ds ∧ (∀ d ∈ ds, Gd n W d) ∧ ds.length = xs.length := by
  induction xs with
  | nil => exact ⟨[], .nil, (fun _ m => nomatch m), rfl⟩
  | cons x xs ih =>
    obtain ⟨d, a, g⟩ := h x List.mem_cons_self
    obtain ⟨ds, b, c, l⟩ := ih fun y m => h y (List.mem_cons_of_mem _ m)
    refine ⟨d :: ds, .cons a b, fun e m => ?_, by simp [l]⟩
    rcases List.mem_cons.mp m with rfl | m
    · exact g
    · exact c e m
theorem Sv.lst {a : Addr} {xs : List V} {W2 n2 : Nat} (h : SqL K H a xs) (hx : ∀ x ∈ xs, Sv K H n W x) (hn : n + 1 ≤ n2) (hW : (W + 1) * xs.length ≤ W2) : Sv K H n2 W2 (.ref a) := by
  obtain ⟨ds, b, c, l⟩ := sv_all hx
  exact ⟨.list ds, .lst h b, (Gd.list c).mono hn (by rw [l]; exact hW)⟩
theorem Sv.tup {a : Addr} {xs : List V} {W2 n2 : Nat} (h : SqT K H a xs) (hx : ∀ x ∈ xs, Sv K H n W x) (hn : n + 1 ≤ n2) (hW : (W + 1) * xs.length ≤ W2) : Sv K H n2 W2 (.ref a) := by
  obtain ⟨ds, b, c, l⟩ := sv_all hx
  exact ⟨.tuple ds, .tup h b, (Gd.tuple c).mono hn (by rw [l]; exact hW)⟩
theorem sv_ints {ns : List Int} (h : ∀ i ∈ ns, i.natAbs < 10 ^ 38) (hW : 130 ≤ W) : ∀ x ∈ ns.map V.int, Sv K H n W x := fun x m => by
  obtain ⟨i, hi, rfl⟩ := List.mem_map.mp m
  exact .int (h i hi) hW
end
/-- a part of a list of numbers is one -/
theorem cut_ints (ns : List Int) (lo hi : Option Int) : ∃ ms : List Int, cutV (ns.map V.int) lo hi = ms.map V.int ∧ ms.length ≤ ns.length ∧ ∀ m ∈ ms, m ∈ ns := by
  have h : ∀ xs : List V, (∀ x ∈ xs, x ∈ ns.map V.int) → ∃ ms : List Int, xs = ms.map V.int ∧ ∀ m ∈ ms, m ∈ ns := fun xs => by
    induction xs with
    | nil => exact fun _ => ⟨[], rfl, fun _ m => nomatch m⟩
    | cons x xs ih =>
      intro hx
      obtain ⟨i, hi, rfl⟩ := List.mem_map.mp (hx x List.mem_cons_self)
      obtain ⟨ms, rfl, hm⟩ := ih fun y m => hx y (List.mem_cons_of_mem _ m)
      refine ⟨i :: ms, rfl, fun m e => ?_⟩
      rcases List.mem_cons.mp e with rfl | e
      · exact hi
      · exact hm m e
  obtain ⟨ms, e, hm⟩ := h _ fun x m => cutV_mem m
  refine ⟨ms, e, ?_, hm⟩
  have := cutV_len (ns.map V.int) lo hi
  rw [e, List.length_map, List.length_map] at this
  exact this
/-! ### new things with the heap left closed -/
section
variable {K : PySem.W.Frag} {H : Hp} {Q : VK}
theorem newE {o : HO} (q : ∀ (p : Addr) (H' : Hp), H p = none → Ex H H' → H' p = some o → Q (.ref p) H') : ∀ p, H p = none → Q (.ref p) (upd H p o) := fun p np => q p _ np (Ex.new np) upd_same
theorem slE {a : Addr} {lo hi : Option Int} {row : List Int} (h : SqL K H a (row.map V.int)) (q : ∀ (p : Addr) (H' : Hp) (ms : List Int), H p = none → Ex H H' → H' p = some (.lst (ms.map V.int)) → ms.length ≤ row.length → (∀ m ∈ ms, m ∈ row) → Q (.ref p) H') : rSlL K (.ref a) lo hi H Q := by
  obtain ⟨ms, e, l, i⟩ := cut_ints row lo hi
  refine slL h fun z nz => ?_
  rw [e]
  exact q z _ ms nz (Ex.new nz) upd_same l i
theorem slXE {a : Addr} {lo hi : Option Int} {xs : List V} (h : SqL K H a xs) (q : ∀ (p : Addr) (H' : Hp) (ys : List V), H p = none → Ex H H' → H' p = some (.lst ys) → ys = cutV xs lo hi → ys.length ≤ xs.length → (∀ m ∈ ys, m ∈ xs) → Q (.ref p) H') : rSlL K (.ref a) lo hi H Q :=
  slL h fun z nz => q z _ _ nz (Ex.new nz) upd_same rfl (cutV_len _ _ _) fun m hm => cutV_mem hm
theorem catE {a b : Addr} {xs ys : List V} (h : H a = some (.lst xs)) (hb : H b = some (.lst ys)) (hz : xs.length + ys.length ≤ 100000) (q : ∀ (p : Addr) (H' : Hp), H p = none → Ex H H' → H' p = some (.lst (xs ++ ys)) → Q (.ref p) H') : rCat (.ref a) (.ref b) H Q :=
  catL h hb (sz_ok hz) (newE q)
theorem repE {a : Addr} {xs : List V} {k : Nat} (h : H a = some (.lst xs)) (hk : k ≤ 100000) (hz : xs.length * k ≤ 100000) (q : ∀ (p : Addr) (H' : Hp), H p = none → Ex H H' → H' p = some (.lst (List.replicate k xs).flatten) → Q (.ref p) H') : rRep (.ref a) (.int k) H Q :=
  repL h (by omega) (by omega) (sz_ok (by simpa using hz)) (by simpa using newE q)
theorem lstE {xs : List V} (hz : xs.length ≤ 100000) (q : ∀ (p : Addr) (H' : Hp), H p = none → Ex H H' → H' p = some (.lst xs) → Q (.ref p) H') : xs.length ≤ sizeLine ∧ ∀ p, H p = none → Q (.ref p) (upd H p (.lst xs)) := ⟨sz_ok hz, newE q⟩
theorem tupE {xs : List V} (hz : xs.length ≤ 100000) (q : ∀ (p : Addr) (H' : Hp), H p = none → Ex H H' → H' p = some (.tup xs) → Q (.ref p) H') : xs.length ≤ sizeLine ∧ ∀ p, H p = none → Q (.ref p) (upd H p (.tup xs)) := ⟨sz_ok hz, newE q⟩
end
end BC

set_option Elab.async false
set_option linter.all false
set_option maxRecDepth 100000
set_option maxHeartbeats 4000000
/-! whether any value is a site; a list held against the empty one -/
namespace BC
open PySem PySem.Spec PyProof.Rows L2 Evl
section
variable {X : Cx} {K : PySem.W.Frag}
/-- == of any list and an empty one -/
def rEqNil (K : PySem.W.Frag) : R2 := fun x y H Q => ∃ (a b : Addr) (xs : List V), x = .ref a ∧ y = .ref b ∧ SqL K H a xs ∧ SqL K H b [] ∧ Q (.bl (decide (xs = []))) H
theorem k_eqNil (hK : X.K = K) (hu : X.A.units + 64 < cLine) : OpR X (compareOp .Eq) (rEqNil K) := by
  subst hK
  intro pins s σ H x y v u Q I rx ry h
  obtain ⟨a, b, xs, rfl, rfl, ha, hb, q⟩ := h
  cases rx
  cases ry
  obtain ⟨its, r, p1, _⟩ := I.list ha
  obtain ⟨its2, r2, p2, _⟩ := I.list hb
  have z2 : its2 = [] := by cases r2; rfl
  subst z2
  have lr := r.length
  cases xs with
  | nil =>
    have z1 : its = [] := by cases r; rfl
    subst z1
    rw [decide_eq_true rfl] at q
    exact SeqAt.eq_listAt (e := fun _ => true) p1.isList p2.isList rfl (by omega) (fun j h1 _ => absurd h1 (by simp)) ⟨.bl true, H, I, rfl, q⟩
  | cons x xs =>
    rw [decide_eq_false (by simp)] at q
    exact SeqAt.eq_list_lengthsAt p1.isList p2.isList (by simp; intro e; subst e; simp at lr) (by omega) ⟨.bl false, H, I, rfl, q⟩
theorem eqNil {a b : Addr} {xs : List V} {H : Hp} {Q : VK} (ha : SqL K H a xs) (hb : SqL K H b []) (q : Q (.bl (decide (xs = []))) H) : rEqNil K (.ref a) (.ref b) H Q := ⟨a, b, xs, rfl, rfl, ha, hb, q⟩
end
/-! ### the plain law -/
def inD (lo hi : Int) : PyData → Bool
  | .int i => decide (lo ≤ i) && decide (i ≤ hi)
  | _ => false
def numD : PyData → Int
  | .int i => i
  | _ => 0
/-- is the value a row of links of page i among m pages? -/
def isRowD (i : Nat) (m : Int) : PyData → Bool
  | .list ds => if ds.all (inD 0 (m - 1)) = true then decide ((i : Int) ∉ ds.map numD) && decide ((ds.map numD).Pairwise (· < ·)) else false
  | _ => false
def isSiteD : PyData → Bool
  | .list ds => if 1 ≤ ds.length ∧ ds.length ≤ 12 then (List.range ds.length).all fun i => isRowD i ds.length (ds.getD i .none) else false
  | _ => false
/-- the law's own look at a row -/
def netRow (m : Int) (i : Nat) : Int → List PyData → Bool
  | _, [] => true
  | last, .int x :: ds => if x ≤ last ∨ x ≥ m then false else if x = i then false else netRow m i x ds
  | _, .none :: _ => false
  | _, .bool _ :: _ => false
  | _, .str _ :: _ => false
  | _, .list _ :: _ => false
  | _, .tuple _ :: _ => false
  | _, .dict _ :: _ => false
theorem netRow_iff (m : Int) (i : Nat) : ∀ (ds : List PyData) (last : Int), -1 ≤ last → (netRow m i last ds = true ↔ (ds.all (inD 0 (m - 1)) = true ∧ (i : Int) ∉ ds.map numD ∧ (ds.map numD).Pairwise (· < ·) ∧ ∀ n ∈ ds.map numD, last < n)) := by
  intro ds
  induction ds with
  | nil => intro last _; simp [netRow]
  | cons d ds ih =>
    intro last hl
    cases d with
    | int x =>
      simp only [netRow, List.map_cons, List.all_cons, numD, List.mem_cons, List.pairwise_cons]
      by_cases c1 : x ≤ last ∨ x ≥ m
      · rw [if_pos c1]
        constructor
        · intro h; cases h
        · rintro ⟨h1, h2, h3, h4⟩
          have := h4 x (.inl rfl)
          simp [inD] at h1
          omega
      · rw [if_neg c1]
        by_cases c2 : x = (i : Int)
        · rw [if_pos c2]
          constructor
          · intro h; cases h
          · rintro ⟨_, h2, _⟩
            exact absurd (.inl c2.symm) h2
        · rw [if_neg c2, ih x (by omega)]
          constructor
          · rintro ⟨h1, h2, h3, h4⟩
            refine ⟨?_, ?_, ⟨h4, h3⟩, ?_⟩
            · rw [h1]
              simp [inD]
              omega
            · rintro (h | h)
              · exact c2 h.symm
              · exact h2 h
            · rintro n (rfl | h)
              · omega
              · have := h4 n h; omega
          · rintro ⟨h1, h2, ⟨h3, h5⟩, h4⟩
            rw [Bool.and_eq_true] at h1
            exact ⟨h1.2, fun h => h2 (.inr h), h5, h3⟩
    | _ =>
      constructor
      · intro h; cases h
      · rintro ⟨h1, _⟩
        simp [inD] at h1
theorem netRow_row (m : Int) (i : Nat) (ds : List PyData) : netRow m i (-1) ds = isRowD i m (.list ds) := by
  have h := netRow_iff m i ds (-1) (by omega)
  show _ = (if ds.all (inD 0 (m - 1)) = true then decide ((i : Int) ∉ ds.map numD) && decide ((ds.map numD).Pairwise (· < ·)) else false)
  by_cases c : ds.all (inD 0 (m - 1)) = true
  · rw [if_pos c]
    have nn : ∀ n ∈ ds.map numD, -1 < n := fun n hn => by
      obtain ⟨d, hd, rfl⟩ := List.mem_map.mp hn
      have := List.all_eq_true.mp c d hd
      cases d <;> simp [inD, numD] at this ⊢
      omega
    cases e : netRow m i (-1) ds with
    | true =>
      obtain ⟨_, h2, h3, _⟩ := h.mp e
      rw [decide_eq_true h2, decide_eq_true h3]
      rfl
    | false =>
      symm
      rw [Bool.and_eq_false_iff]
      by_cases c2 : (i : Int) ∈ ds.map numD
      · exact .inl (decide_eq_false (fun z => z c2))
      · refine .inr (decide_eq_false fun c3 => ?_)
        rw [h.mpr ⟨c, c2, c3, nn⟩] at e
        cases e
  · rw [if_neg c]
    cases e : netRow m i (-1) ds with
    | true => exact absurd (h.mp e).1 c
    | false => rfl
/-! ### values whose lists are not too long -/
def LenL (d : PyData) : Prop := ∀ es, d = .list es → es.length ≤ 4000
def RowsL (d : PyData) : Prop := ∀ ds, d = .list ds → ∀ e ∈ ds, LenL e
/-- shown in few signs, itself not too long -/
def Sw (K : PySem.W.Frag) (H : Hp) (n W : Nat) (v : V) : Prop := ∃ d, De K H v d ∧ Gd n W d ∧ LenL d
/-- shown in few signs, its items not too long -/
def Sr (K : PySem.W.Frag) (H : Hp) (n W : Nat) (v : V) : Prop := ∃ d, De K H v d ∧ Gd n W d ∧ RowsL d
section
variable {K : PySem.W.Frag} {H H' : Hp} {n W : Nat} {v : V}
theorem Gd.intB {i : Int} {k : Nat} (h : i.natAbs < 2 ^ k) (h0 : 0 < k) (hk : k ≤ 128) : Gd 0 k (.int i) := by
  have hl : i.natAbs.log2 < k := log2_small h0 h
  have h2 : i.natAbs < 10 ^ 39 := Nat.lt_of_lt_of_le h (Nat.le_trans (Nat.pow_le_pow_right (by decide) hk) (by decide +kernel))
  refine ⟨?_, ?_, Nat.le_refl _, ?_⟩
  · show decide (i.natAbs.log2 < 1920) = true
    exact decide_eq_true (by omega)
  · show decide ((PyData.shown (.int i)).length ≤ 40) = true
    refine decide_eq_true ?_
    have e := int_text_length_le10 (k := 39) (by decide) h2
    simp only [PyData.shown]
    rw [show ((toString i : String) : Str).length = (toString i).length from PySem.ofString_length _]
    omega
  · simp only [PyData.weight]
    split
    · omega
    · omega
theorem Sw.ex (h : Sw K H n W v) (e : Ex H H') : Sw K H' n W v := by
  obtain ⟨d, a, g⟩ := h
  exact ⟨d, De.ex e d v a, g⟩
theorem Sr.ex (h : Sr K H n W v) (e : Ex H H') : Sr K H' n W v := by
  obtain ⟨d, a, g⟩ := h
  exact ⟨d, De.ex e d v a, g⟩
theorem Sw.mono {n2 W2 : Nat} (h : Sw K H n W v) (a : n ≤ n2) (b : W ≤ W2) : Sw K H n2 W2 v := by
  obtain ⟨d, x, g, l⟩ := h
  exact ⟨d, x, g.mono a b, l⟩
theorem Sr.mono {n2 W2 : Nat} (h : Sr K H n W v) (a : n ≤ n2) (b : W ≤ W2) : Sr K H n2 W2 v := by
  obtain ⟨d, x, g, l⟩ := h
  exact ⟨d, x, g.mono a b, l⟩
theorem Sw.non : Sw K H n W .non := ⟨_, .non, Gd.non.mono (Nat.zero_le _) (Nat.zero_le _), fun _ e => by cases e⟩
theorem Sw.bl (b : Bool) : Sw K H n W (.bl b) := ⟨_, .bl b, (Gd.bl b).mono (Nat.zero_le _) (Nat.zero_le _), fun _ e => by cases e⟩
theorem Sw.int {i : Int} {k : Nat} (h : i.natAbs < 2 ^ k) (h0 : 0 < k) (hk : k ≤ 128) (hW : k ≤ W) : Sw K H n W (.int i) := ⟨_, .int i, (Gd.intB h h0 hk).mono (Nat.zero_le _) hW, fun _ e => by cases e⟩
theorem Sw.str {x : Str} (h : (PyData.str x).leavesShort 40 = true) (hW : x.cps.size ≤ W) : Sw K H n W (.str x) := ⟨_, .str x, (Gd.str h).mono (Nat.zero_le _) hW, fun _ e => by cases e⟩
theorem Sw.dic {a : Addr} (h : H a = some (.dK [])) (hn : 1 ≤ n) : Sw K H n W (.ref a) := ⟨_, .dic h, Gd.dic.mono hn (Nat.zero_le _), fun _ e => by cases e⟩
theorem sw_all {xs : List V} (h : ∀ x ∈ xs, Sw K H n W x) : ∃ ds, DeAll K H xs ds ∧ (∀ d ∈ ds, Gd n W d) ∧ (∀ d ∈ ds, LenL d) ∧ ds.length = xs.length := by
  induction xs with
  | nil => exact ⟨[], .nil, (fun _ m => nomatch m), (fun _ m => nomatch m), rfl⟩
  | cons x xs ih =>
    obtain ⟨d, a, g, q⟩ := h x List.mem_cons_self
    obtain ⟨ds, b, c, r, l⟩ := ih fun y m => h y (List.mem_cons_of_mem _ m)
    refine ⟨d :: ds, .cons a b, fun e m => ?_, fun e m => ?_, by simp [l]⟩
    · rcases List.mem_cons.mp m with rfl | m
      · exact g
      · exact c e m
    · rcases List.mem_cons.mp m with rfl | m
      · exact q
      · exact r e m
theorem Sw.lst {a : Addr} {xs : List V} {W2 n2 : Nat} (h : SqL K H a xs) (hx : ∀ x ∈ xs, Sw K H n W x) (hl : xs.length ≤ 4000) (hn : n + 1 ≤ n2) (hW : (W + 1) * xs.length ≤ W2) : Sw K H n2 W2 (.ref a) := by
  obtain ⟨ds, b, c, q, l⟩ := sw_all hx
  exact ⟨.list ds, .lst h b, (Gd.list c).mono hn (by rw [l]; exact hW), fun es e => by cases e; omega⟩
theorem Sr.lst {a : Addr} {xs : List V} {W2 n2 : Nat} (h : SqL K H a xs) (hx : ∀ x ∈ xs, Sw K H n W x) (hn : n + 1 ≤ n2) (hW : (W + 1) * xs.length ≤ W2) : Sr K H n2 W2 (.ref a) := by
  obtain ⟨ds, b, c, q, l⟩ := sw_all hx
  exact ⟨.list ds, .lst h b, (Gd.list c).mono hn (by rw [l]; exact hW), fun es e f m => by cases e; exact q f m⟩
theorem Sw.tup {a : Addr} {xs : List V} {W2 n2 : Nat} (h : SqT K H a xs) (hx : ∀ x ∈ xs, Sw K H n W x) (hn : n + 1 ≤ n2) (hW : (W + 1) * xs.length ≤ W2) : Sw K H n2 W2 (.ref a) := by
  obtain ⟨ds, b, c, q, l⟩ := sw_all hx
  exact ⟨.tuple ds, .tup h b, (Gd.tuple c).mono hn (by rw [l]; exact hW), fun es e => by cases e⟩
/-- what is no list is asked no more -/
theorem Sw.sr {d : PyData} (a : De K H v d) (g : Gd n W d) (h : ∀ es, d ≠ .list es) : Sr K H n W v := ⟨d, a, g, fun es e => absurd e (h es)⟩
theorem Sr.non : Sr K H n W .non := Sw.sr .non (Gd.non.mono (Nat.zero_le _) (Nat.zero_le _)) (fun _ e => by cases e)
theorem Sr.bl (b : Bool) : Sr K H n W (.bl b) := Sw.sr (.bl b) ((Gd.bl b).mono (Nat.zero_le _) (Nat.zero_le _)) (fun _ e => by cases e)
theorem Sr.int {i : Int} {k : Nat} (h : i.natAbs < 2 ^ k) (h0 : 0 < k) (hk : k ≤ 128) (hW : k ≤ W) : Sr K H n W (.int i) := Sw.sr (.int i) ((Gd.intB h h0 hk).mono (Nat.zero_le _) hW) (fun _ e => by cases e)
theorem Sr.str {x : Str} (h : (PyData.str x).leavesShort 40 = true) (hW : x.cps.size ≤ W) : Sr K H n W (.str x) := Sw.sr (.str x) ((Gd.str h).mono (Nat.zero_le _) hW) (fun _ e => by cases e)
theorem Sr.dic {a : Addr} (h : H a = some (.dK [])) (hn : 1 ≤ n) : Sr K H n W (.ref a) := Sw.sr (.dic h) (Gd.dic.mono hn (Nat.zero_le _)) (fun _ e => by cases e)
theorem Sr.tup {a : Addr} {xs : List V} {W2 n2 : Nat} (h : SqT K H a xs) (hx : ∀ x ∈ xs, Sw K H n W x) (hn : n + 1 ≤ n2) (hW : (W + 1) * xs.length ≤ W2) : Sr K H n2 W2 (.ref a) := by
  obtain ⟨ds, b, c, q, l⟩ := sw_all hx
  exact ⟨.tuple ds, .tup h b, (Gd.tuple c).mono hn (by rw [l]; exact hW), fun es e => by cases e⟩
theorem sw_ints {ns : List Int} {k : Nat} (h : ∀ i ∈ ns, i.natAbs < 2 ^ k) (h0 : 0 < k) (hk : k ≤ 128) (hW : k ≤ W) : ∀ x ∈ ns.map V.int, Sw K H n W x := fun x m => by
  obtain ⟨i, hi, rfl⟩ := List.mem_map.mp m
  exact .int (h i hi) h0 hk hW
/-- a list of numbers below 256 -/
theorem Sw.row {a : Addr} {ns : List Int} {n2 W2 : Nat} (h : SqL K H a (ns.map V.int)) (hb : ∀ i ∈ ns, i.natAbs < 256) (hl : ns.length ≤ 4000) (hn : 1 ≤ n2) (hW : 9 * ns.length ≤ W2) : Sw K H n2 W2 (.ref a) :=
  Sw.lst (n := 0) (W := 8) h (sw_ints (k := 8) hb (by omega) (by omega) (Nat.le_refl _)) (by rw [List.length_map]; exact hl) hn (by rw [List.length_map]; exact hW)
/-- the rows of a grid -/
theorem grid_sw {s : Addr} {G : Grid} (h : GridAt H s G) {m : Nat} (hr : ∀ i, (row G i).length ≤ m ∧ ∀ x ∈ row G i, x < 256) (hm : m ≤ 4000) : ∃ xs, H s = some (.lst xs) ∧ xs.length = G.length ∧ ∀ x ∈ xs, Sw K H 1 (9 * m) x := by
  obtain ⟨xs, h1, h2, h3⟩ := h.lst
  refine ⟨xs, h1, h2, fun x hx => ?_⟩
  obtain ⟨i, hi⟩ := List.getElem?_of_mem hx
  obtain ⟨_, p, rfl, hp⟩ := h3 i x hi
  have q := hr i
  refine Sw.row (.inl (.inl hp)) (fun n hn => ?_) (by rw [nz_len]; omega) (Nat.le_refl _) (by rw [nz_len]; exact Nat.mul_le_mul_left _ q.1)
  obtain ⟨y, hy, rfl⟩ := List.mem_map.mp hn
  have := q.2 y hy
  show ((y : Nat) : Int).natAbs < 256
  omega
end
end BC

set_option Elab.async false
set_option linter.all false
set_option maxRecDepth 100000
set_option maxHeartbeats 4000000
/-! walks on a site, by number and one by one -/
namespace BC
section
open PySem PySem.Spec PyProof.Rows L2 Evl
/-- xs[i] of xs[i] += e -/
def rGetL (K : PySem.W.Frag) : V → V → Hp → VK → Prop := fun x y H Q => ∃ p xs, ∃ i : Nat, ∃ v, x = .ref p ∧ y = .int i ∧ SqL K H p xs ∧ xs[i]? = some v ∧ Q v H
theorem k_get {X : Cx} {K : PySem.W.Frag} (hK : X.K = K) : PGet X (rGetL K) := by
  subst hK
  intro pins s σ H o i ov iv Q I ro ri h
  obtain ⟨p, xs, j, v, rfl, rfl, hq, hv, q⟩ := h
  cases ro
  obtain ⟨t, rfl⟩ := ri
  obtain ⟨its, r, pl, hz⟩ := I.list hq
  obtain ⟨u, eu, ru⟩ := r.get hv
  have hl := r.length
  have hn := line63
  have hj := (List.getElem?_eq_some_iff.mp hv).1
  refine wpAny_getItem_list (x := u) pl.isList (by omega) (by omega) (by simpa using eu) ⟨v, H, I, ru, q⟩
theorem getL {K : PySem.W.Frag} {H : Hp} {Q : VK} {p : Addr} {xs : List V} {k : Int} {i : Nat} {v : V} (h : SqL K H p xs) (e : k = (i : Int)) (hv : xs[i]? = some v) (q : Q v H) : rGetL K (.ref p) (.int k) H Q := by subst e; exact ⟨p, xs, i, v, rfl, rfl, h, hv, q⟩
theorem x_augS {to ti te : TE} {tget : V → V → Hp → VK → Prop} {tip : TIp} {tset : TSet} {D : Ends} {σ : L2.St} {H : Hp} : tAugS to ti te tget tip tset D σ H = to σ H fun o H1 => ti σ H1 fun i H2 => tget o i H2 fun x H3 => te σ H3 fun y H4 => tip x y H4 fun z H5 => tset o i z H5 fun H6 => D.nx σ H6 := rfl
end
/-- the walks of t steps from v -/
def wf (G : Grid) : Nat → Nat → List (List Nat)
  | 0, v => [[v]]
  | t + 1, v => ((row G v).map fun u => (wf G t u).map (v :: ·)).flatten
def lst (r : List Nat) : Nat := r.getLast?.getD 0
def grow (G : Grid) (r : List Nat) : List (List Nat) := (row G (lst r)).map fun u => r ++ [u]
theorem wf_ne {G : Grid} : ∀ (t v : Nat), ∀ r ∈ wf G t v, r ≠ []
  | 0, v, r, h => by
    obtain rfl : r = [v] := by simpa [wf] using h
    simp
  | t + 1, v, r, h => by
    unfold wf at h
    obtain ⟨a, ha, hr⟩ := List.mem_flatten.mp h
    obtain ⟨u, _, rfl⟩ := List.mem_map.mp ha
    obtain ⟨q, _, rfl⟩ := List.mem_map.mp hr
    simp
theorem grow_cons (G : Grid) (v : Nat) {r : List Nat} (h : r ≠ []) : grow G (v :: r) = (grow G r).map (v :: ·) := by
  unfold grow lst
  rw [List.map_map, List.getLast?_cons_of_ne_nil h]
  rfl
theorem sum_zeros {α : Type} : ∀ l : List α, (l.map fun _ => 0).sum = 0
  | [] => rfl
  | x :: l => by rw [List.map_cons, List.sum_cons, sum_zeros l]
theorem map_flatten' {α β : Type} (f : α → β) : ∀ l : List (List α), l.flatten.map f = (l.map (·.map f)).flatten
  | [] => rfl
  | a :: l => by rw [List.flatten_cons, List.map_append, map_flatten' f l]; rfl
theorem flatten_flatten' {α : Type} : ∀ l : List (List (List α)), l.flatten.flatten = (l.map (·.flatten)).flatten
  | [] => rfl
  | a :: l => by rw [List.flatten_cons, List.flatten_append, flatten_flatten' l]; rfl
theorem wf_snoc (G : Grid) : ∀ (t v : Nat), wf G (t + 1) v = ((wf G t v).map (grow G)).flatten
  | 0, v => by
    show ((row G v).map fun u => [[v, u]]).flatten = (grow G [v]) ++ []
    rw [List.append_nil]
    show ((row G v).map fun u => [[v, u]]).flatten = (row G v).map fun u => [v, u]
    generalize row G v = l
    induction l with
    | nil => rfl
    | cons x l ih =>
      rw [List.map_cons, List.flatten_cons, ih]
      rfl
  | t + 1, v => by
    have ih := fun u => wf_snoc G t u
    show ((row G v).map fun u => (wf G (t + 1) u).map (v :: ·)).flatten = ((((row G v).map fun u => (wf G t u).map (v :: ·)).flatten).map (grow G)).flatten
    rw [map_flatten', flatten_flatten', List.map_map, List.map_map]
    congr 1
    apply List.map_congr_left
    intro u _
    show (wf G (t + 1) u).map (v :: ·) = ((wf G t u |>.map (v :: ·)).map (grow G)).flatten
    rw [ih u, map_flatten', List.map_map, List.map_map]
    congr 1
    apply List.map_congr_left
    intro r hr
    show (grow G r).map (v :: ·) = grow G (v :: r)
    rw [grow_cons G v (wf_ne t u r hr)]
/-- the number of walks of t steps from v to the page that keep out -/
def fw (G : Grid) (out : List Nat) (p : Nat) : Nat → Nat → Nat
  | 0, v => if v = p ∧ v ∉ out then 1 else 0
  | t + 1, v => if v ∉ out then ((row G v).map fun u => fw G out p t u).sum else 0
/-- a walk to the page that keeps out -/
def good (out : List Nat) (p : Nat) (r : List Nat) : Bool := decide (lst r = p) && decide (r.filter (fun x => decide (x ∈ out)) = [])
theorem good_cons {out : List Nat} {p v : Nat} {r : List Nat} (h : r ≠ []) : good out p (v :: r) = (decide (v ∉ out) && good out p r) := by
  unfold good lst
  rw [List.getLast?_cons_of_ne_nil h]
  by_cases c : v ∈ out
  · simp [c]
  · simp [c]
theorem len_flat {α : Type} (P : α → Bool) : ∀ l : List (List α), (l.flatten.filter P).length = (l.map fun a => (a.filter P).length).sum
  | [] => rfl
  | a :: l => by rw [List.flatten_cons, List.filter_append, List.length_append, len_flat P l]; rfl
theorem fw_count (G : Grid) (out : List Nat) (p : Nat) : ∀ (t v : Nat), ((wf G t v).filter (good out p)).length = fw G out p t v
  | 0, v => by
    show ([[v]].filter (good out p)).length = if v = p ∧ v ∉ out then 1 else 0
    have e : good out p [v] = (decide (v = p) && decide (v ∉ out)) := by
      show (decide (v = p) && decide ([v].filter (fun x => decide (x ∈ out)) = [])) = _
      congr 1
      by_cases c : v ∈ out <;> simp [c]
    by_cases a : v = p <;> by_cases c : v ∈ out <;> simp [e, a, c]
    all_goals (subst a; simp_all)
  | t + 1, v => by
    show ((((row G v).map fun u => (wf G t u).map (v :: ·)).flatten).filter (good out p)).length = if v ∉ out then ((row G v).map fun u => fw G out p t u).sum else 0
    rw [len_flat, List.map_map]
    have key : ∀ u, (((wf G t u).map (v :: ·)).filter (good out p)).length = if v ∉ out then fw G out p t u else 0 := fun u => by
      rw [List.filter_map, List.length_map]
      have e : (wf G t u).filter (good out p ∘ fun x => v :: x) = (wf G t u).filter fun r => decide (v ∉ out) && good out p r := by
        apply List.filter_congr
        intro r hr
        show good out p (v :: r) = _
        rw [good_cons (wf_ne t u r hr)]
      rw [e]
      by_cases c : v ∈ out
      · simp [c]
      · rw [if_pos c]
        simp only [c, not_false_eq_true, decide_true, Bool.true_and]
        exact fw_count G out p t u
    by_cases c : v ∈ out
    · rw [if_neg (by simpa using c)]
      have : (row G v).map ((fun a => (List.filter (good out p) a).length) ∘ fun u => (wf G t u).map (v :: ·)) = (row G v).map fun _ => 0 := List.map_congr_left fun u _ => by
        show (((wf G t u).map (v :: ·)).filter (good out p)).length = 0
        rw [key u, if_neg (by simpa using c)]
      rw [this, sum_zeros]
    · rw [if_pos c]
      congr 1
      apply List.map_congr_left
      intro u _
      show (((wf G t u).map (v :: ·)).filter (good out p)).length = _
      rw [key u, if_pos c]
theorem wf_lt {G : Grid} (h : SiteOk G) : ∀ (t v : Nat), v < G.length → ∀ r ∈ wf G t v, (∀ x ∈ r, x < G.length) ∧ r.length = t + 1
  | 0, v, hv, r, hr => by
    obtain rfl : r = [v] := by simpa [wf] using hr
    exact ⟨fun x hx => by rw [List.mem_singleton.mp hx]; exact hv, rfl⟩
  | t + 1, v, hv, r, hr => by
    unfold wf at hr
    obtain ⟨a, ha, hr⟩ := List.mem_flatten.mp hr
    obtain ⟨u, hu, rfl⟩ := List.mem_map.mp ha
    obtain ⟨q, hq, rfl⟩ := List.mem_map.mp hr
    obtain ⟨h1, h2⟩ := wf_lt h t u (h.rlt hu) q hq
    refine ⟨fun x hx => ?_, by rw [List.length_cons, h2]⟩
    rcases List.mem_cons.mp hx with rfl | hx
    · exact hv
    · exact h1 x hx
theorem sum_le {f : Nat → Nat} {b : Nat} : ∀ {l : List Nat}, (∀ x ∈ l, f x ≤ b) → (l.map f).sum ≤ l.length * b
  | [], _ => by simp
  | x :: l, h => by
    have a := h x List.mem_cons_self
    have b := sum_le (l := l) fun y hy => h y (List.mem_cons_of_mem _ hy)
    rw [List.map_cons, List.sum_cons, List.length_cons, Nat.succ_mul]
    omega
theorem fw_le {G : Grid} (h : SiteOk G) (out : List Nat) (p : Nat) : ∀ t v, fw G out p t v ≤ 12 ^ t
  | 0, v => by
    unfold fw
    split <;> simp
  | t + 1, v => by
    unfold fw
    split
    · have a := sum_le (f := fun u => fw G out p t u) (b := 12 ^ t) (l := row G v) fun u _ => fw_le h out p t u
      have b := Nat.mul_le_mul_right (12 ^ t) (h.rlen v)
      rw [Nat.pow_succ, Nat.mul_comm]
      omega
    · exact Nat.zero_le _
theorem wf_len {G : Grid} (h : SiteOk G) : ∀ (t v : Nat), (wf G t v).length ≤ G.length ^ t
  | 0, v => by simp [wf]
  | t + 1, v => by
    show (((row G v).map fun u => (wf G t u).map (v :: ·)).flatten).length ≤ _
    have e : (((row G v).map fun u => (wf G t u).map (v :: ·)).flatten).length = ((row G v).map fun u => (wf G t u).length).sum := by
      rw [List.length_flatten, List.map_map]
      congr 1
      apply List.map_congr_left
      intro u _
      show ((wf G t u).map _).length = _
      rw [List.length_map]
    rw [e]
    have a := sum_le (f := fun u => (wf G t u).length) (b := G.length ^ t) (l := row G v) fun u _ => wf_len h t u
    have rl : (row G v).length ≤ G.length := by
      by_cases q : v < G.length
      · exact nodup_lt _ (asc_nodup (h.asc v _ (at_row q))) (h.lt v _ (at_row q))
      · unfold row
        rw [List.getD_eq_getElem?_getD, List.getElem?_eq_none (by omega)]
        exact Nat.zero_le _
    have b := Nat.mul_le_mul_right (G.length ^ t) rl
    rw [Nat.pow_succ, Nat.mul_comm]
    omega
theorem flat_le {α β : Type} {f : α → List β} {b : Nat} : ∀ {l : List α}, (∀ x ∈ l, (f x).length ≤ b) → (l.map f).flatten.length ≤ l.length * b
  | [], _ => by simp
  | x :: l, h => by
    have a := h x List.mem_cons_self
    have c := flat_le (l := l) fun y hy => h y (List.mem_cons_of_mem _ hy)
    rw [List.map_cons, List.flatten_cons, List.length_append, List.length_cons, Nat.succ_mul]
    omega
/-! ### products of lists of numbers -/
def cnv (a b : List Nat) (k : Nat) : Nat := ((List.range (k + 1)).map fun i => a.getD i 0 * b.getD (k - i) 0).sum
def conv (a b : List Nat) (n : Nat) : List Nat := (List.range (n + 1)).map fun k => cnv a b k
theorem conv_len (a b : List Nat) (n : Nat) : (conv a b n).length = n + 1 := by unfold conv; rw [List.length_map, List.length_range]
theorem conv_at {a b : List Nat} {n k : Nat} (h : k ≤ n) : (conv a b n)[k]? = some (cnv a b k) := by
  unfold conv
  rw [List.getElem?_map, List.getElem?_range (by omega)]
  rfl
/-- what is added up while the first i of a are done, and j of b at the next one -/
def part (a b : List Nat) (i j k : Nat) : Nat := ((List.range (k + 1)).map fun u => if u < i ∨ (u = i ∧ k - u < j) then a.getD u 0 * b.getD (k - u) 0 else 0).sum
theorem part_zero (a b : List Nat) (k : Nat) : part a b 0 0 k = 0 := by
  unfold part
  have : (List.range (k + 1)).map (fun u => if u < 0 ∨ (u = 0 ∧ k - u < 0) then a.getD u 0 * b.getD (k - u) 0 else 0) = (List.range (k + 1)).map fun _ => 0 := List.map_congr_left fun u _ => by rw [if_neg (by omega)]
  rw [this, sum_zeros]
theorem sum_one (n i : Nat) (f g : Nat → Nat) (c : Nat) (hi : i < n) (h1 : ∀ u, u < n → u ≠ i → g u = f u) (h2 : g i = f i + c) : ((List.range n).map g).sum = ((List.range n).map f).sum + c := by
  induction n with
  | zero => omega
  | succ n ih =>
    rw [List.range_succ, List.map_append, List.map_append, List.sum_append, List.sum_append]
    simp only [List.map_cons, List.map_nil, List.sum_cons, List.sum_nil]
    by_cases e : i = n
    · subst e
      have : (List.range i).map g = (List.range i).map f := List.map_congr_left fun u hu => h1 u (by rw [List.mem_range] at hu; omega) (by rw [List.mem_range] at hu; omega)
      rw [this, h2]
      omega
    · rw [ih (by omega) (fun u hu ne => h1 u (by omega) ne), h1 n (by omega) (Ne.symm e)]
      omega
theorem part_step {a b : List Nat} {i j k : Nat} : part a b i (j + 1) k = part a b i j k + if k = i + j then a.getD i 0 * b.getD j 0 else 0 := by
  unfold part
  by_cases c : k = i + j
  · rw [if_pos c]
    refine sum_one (k + 1) i _ _ _ (by omega) (fun u hu ne => ?_) ?_
    · have : (u < i ∨ (u = i ∧ k - u < j + 1)) ↔ (u < i ∨ (u = i ∧ k - u < j)) := by omega
      simp only [this]
    · have e : k - i = j := by omega
      rw [if_pos (by omega), if_neg (by omega), e, Nat.zero_add]
  · rw [if_neg c, Nat.add_zero]
    congr 1
    apply List.map_congr_left
    intro u hu
    rw [List.mem_range] at hu
    have : (u < i ∨ (u = i ∧ k - u < j + 1)) ↔ (u < i ∨ (u = i ∧ k - u < j)) := by omega
    simp only [this]
theorem part_next {a b : List Nat} {i j k : Nat} (h : k < i + j ∨ b.length ≤ j ∨ a.getD i 0 = 0) : part a b i j k = part a b (i + 1) 0 k := by
  unfold part
  congr 1
  apply List.map_congr_left
  intro u hu
  rw [List.mem_range] at hu
  by_cases c1 : u < i
  · rw [if_pos (.inl c1), if_pos (by omega)]
  · by_cases c2 : u = i
    · subst c2
      rw [if_pos (show u < u + 1 ∨ _ by omega)]
      by_cases c3 : k - u < j
      · rw [if_pos (by omega)]
      · rw [if_neg (by omega)]
        rcases h with h | h | h
        · omega
        · rw [show b.getD (k - u) 0 = 0 by rw [List.getD_eq_getElem?_getD, List.getElem?_eq_none (by omega)]; rfl, Nat.mul_zero]
        · rw [h, Nat.zero_mul]
    · rw [if_neg (by omega), if_neg (by omega)]
theorem part_full {a b : List Nat} {i k : Nat} (h : k < i ∨ a.length ≤ i) : part a b i 0 k = cnv a b k := by
  unfold part cnv
  congr 1
  apply List.map_congr_left
  intro u hu
  rw [List.mem_range] at hu
  by_cases c : u < i
  · rw [if_pos (.inl c)]
  · rw [if_neg (by omega)]
    rw [show a.getD u 0 = 0 by rw [List.getD_eq_getElem?_getD, List.getElem?_eq_none (by omega)]; rfl, Nat.zero_mul]
theorem part_le {a b : List Nat} {i j k B C : Nat} (ha : ∀ x ∈ a, x ≤ B) (hb : ∀ x ∈ b, x ≤ C) : part a b i j k ≤ (k + 1) * (B * C) := by
  unfold part
  have ga : ∀ u, a.getD u 0 ≤ B := fun u => by
    by_cases q : u < a.length
    · rw [List.getD_eq_getElem?_getD, List.getElem?_eq_getElem q]
      exact ha _ (List.getElem_mem q)
    · rw [List.getD_eq_getElem?_getD, List.getElem?_eq_none (by omega)]
      exact Nat.zero_le _
  have gb : ∀ u, b.getD u 0 ≤ C := fun u => by
    by_cases q : u < b.length
    · rw [List.getD_eq_getElem?_getD, List.getElem?_eq_getElem q]
      exact hb _ (List.getElem_mem q)
    · rw [List.getD_eq_getElem?_getD, List.getElem?_eq_none (by omega)]
      exact Nat.zero_le _
  have := sum_le (f := fun u => if u < i ∨ (u = i ∧ k - u < j) then a.getD u 0 * b.getD (k - u) 0 else 0) (b := B * C) (l := List.range (k + 1)) fun u _ => by
    split
    · exact Nat.mul_le_mul (ga u) (gb _)
    · exact Nat.zero_le _
  rw [List.length_range] at this
  exact this
/-- the list of the sums -/
def parts (a b : List Nat) (n i j : Nat) : List Nat := (List.range (n + 1)).map fun k => part a b i j k
theorem parts_len (a b : List Nat) (n i j : Nat) : (parts a b n i j).length = n + 1 := by unfold parts; rw [List.length_map, List.length_range]
theorem parts_at {a b : List Nat} {n i j k : Nat} (h : k ≤ n) : (parts a b n i j)[k]? = some (part a b i j k) := by
  unfold parts
  rw [List.getElem?_map, List.getElem?_range (by omega)]
  rfl
theorem parts_zero (a b : List Nat) (n : Nat) : parts a b n 0 0 = List.replicate (n + 1) 0 := by
  apply List.ext_getElem?
  intro k
  by_cases h : k < n + 1
  · rw [parts_at (by omega), part_zero, List.getElem?_replicate, if_pos h]
  · rw [List.getElem?_eq_none (by rw [parts_len]; omega), List.getElem?_eq_none (by rw [List.length_replicate]; omega)]
theorem parts_step {a b : List Nat} {n i j : Nat} (h : i + j ≤ n) : (parts a b n i j).set (i + j) (part a b i j (i + j) + a.getD i 0 * b.getD j 0) = parts a b n i (j + 1) := by
  apply List.ext_getElem?
  intro k
  by_cases hk : k < n + 1
  · rw [parts_at (by omega), part_step, List.getElem?_set]
    by_cases e : i + j = k
    · subst e
      rw [if_pos rfl, if_pos (by rw [parts_len]; omega), if_pos rfl]
    · rw [if_neg e, parts_at (by omega), if_neg (Ne.symm e), Nat.add_zero]
  · rw [List.getElem?_eq_none (by rw [List.length_set, parts_len]; omega), List.getElem?_eq_none (by rw [parts_len]; omega)]
theorem parts_over {a b : List Nat} {n i j : Nat} (h : n < i + j) : parts a b n i (j + 1) = parts a b n i j := by
  unfold parts
  apply List.map_congr_left
  intro k hk
  rw [List.mem_range] at hk
  rw [part_step, if_neg (by omega), Nat.add_zero]
theorem parts_next {a b : List Nat} {n i j : Nat} (h : n < i + j ∨ b.length ≤ j ∨ a.getD i 0 = 0) : parts a b n i j = parts a b n (i + 1) 0 := by
  unfold parts
  apply List.map_congr_left
  intro k hk
  rw [List.mem_range] at hk
  exact part_next (by omega)
theorem parts_full {a b : List Nat} {n i : Nat} (h : n < i ∨ a.length ≤ i) : parts a b n i 0 = conv a b n := by
  unfold parts conv
  apply List.map_congr_left
  intro k hk
  rw [List.mem_range] at hk
  exact part_full (by omega)
section
open PySem PySem.Spec PyProof.Rows L2 Evl
theorem lc_enumE {K : PySem.W.Frag} {σ : L2.St} {H1 : Hp} {g : TG} {te : TE} {vs : List Nat} {Dl : Addr} {Q : VK} {a : Addr} {xs : List V} (Pv : Nat → Hp → Prop) (h0 : Pv 0 (upd H1 Dl (.lst []))) (hl : ∀ i H, i ≤ xs.length → Pv i H → SqL K H a xs)
    (hs : ∀ i x H T, xs[i]? = some x → Pv i H → H T = none → g (.ref T) (wipe σ vs) (upd H T (.tup [.int (i : Nat), x])) fun σ2 H2 => wipe σ2 vs = wipe σ vs ∧ te σ2 H2 fun y H4 => ∃ acc, H4 Dl = some (.lst acc) ∧ acc.length < sizeLine ∧ Pv (i + 1) (upd H4 Dl (.lst (acc ++ [y]))))
    (hd : ∀ H, Pv xs.length H → Q (.ref Dl) H) : LcG (Ite K a) g tYes te vs σ Dl H1 Q := by
  refine lc_g xs.length Pv h0 (fun H h => ⟨xs, hl _ H (Nat.le_refl _) h, Nat.le_refl _⟩) (fun i H hi h => ⟨xs, xs[i], hl i H (by omega) h, List.getElem?_eq_getElem hi⟩) (fun i H x H' hi h y => ?_) hd
  obtain ⟨T, v, rfl, hT, rfl, hf⟩ := y
  exact hs i v H T (hf xs (hl i _ (by omega) h)) h hT
/-- a row of a new grid changed -/
theorem GridN.chg {H H1 : Hp} {s : Addr} {G : Grid} (h : GridN H H1 s G) {j : Nat} (hj : j < G.length) : ∃ p xs, H1 s = some (.lst xs) ∧ xs.length = G.length ∧ xs[j]? = some (.ref p) ∧ H1 p = some (.lst ((nz (row G j)).map V.int)) ∧ H p = none ∧
    ∀ r : List Nat, GridN H (upd H1 p (.lst ((nz r).map V.int))) s (G.set j r) := by
  obtain ⟨h0, ps, h1, h2, h4, h5, h3⟩ := h
  have hx : ps[j]? = some ps[j] := List.getElem?_eq_getElem (by omega)
  have hp := h3 j _ hx
  refine ⟨ps[j], _, h1, by rw [List.length_map]; exact h2, by rw [List.getElem?_map, hx]; rfl, hp.2, hp.1, fun r => ?_⟩
  have ns : s ≠ ps[j] := fun e => h5 (by rw [e]; exact List.getElem_mem _)
  refine ⟨h0, ps, by rw [upd_ne ns]; exact h1, by rw [List.length_set]; exact h2, h4, h5, fun i q e => ⟨(h3 i q e).1, ?_⟩⟩
  by_cases c : i = j
  · subst c
    rw [hx] at e
    obtain rfl := Option.some.inj e
    rw [upd_same]
    unfold row
    rw [List.getD_eq_getElem?_getD, List.getElem?_set, if_pos rfl, if_pos hj]
    rfl
  · have nq : q ≠ ps[j] := fun z => by
      subst z
      exact c (nd_at h4 e hx)
    rw [upd_ne nq, (h3 i q e).2]
    unfold row
    rw [List.getD_eq_getElem?_getD, List.getD_eq_getElem?_getD, List.getElem?_set, if_neg (Ne.symm c)]
/-! ### what the functions of loops.py give -/
def cl (G : Grid) (out : List Nat) (p n : Nat) : List Nat := (List.range (n + 1)).map fun t => fw G out p t p
def stg (G : Grid) (out : List Nat) (p k j : Nat) : Grid := (List.range G.length).map fun v => (List.range (if v < j then k + 2 else k + 1)).map fun t => fw G out p t v
theorem stg_len (G : Grid) (out : List Nat) (p k j : Nat) : (stg G out p k j).length = G.length := by unfold stg; rw [List.length_map, List.length_range]
theorem stg_row {G : Grid} {out : List Nat} {p k j v : Nat} (h : v < G.length) : row (stg G out p k j) v = (List.range (if v < j then k + 2 else k + 1)).map fun t => fw G out p t v := by
  unfold row stg
  rw [List.getD_eq_getElem?_getD, List.getElem?_map, List.getElem?_range h]
  rfl
theorem stg_set {G : Grid} {out : List Nat} {p k j : Nat} (h : j < G.length) : (stg G out p k j).set j (row (stg G out p k j) j ++ [fw G out p (k + 1) j]) = stg G out p k (j + 1) := by
  apply List.ext_getElem?
  intro v
  by_cases hv : v < G.length
  · rw [List.getElem?_set, stg_row h, if_neg (Nat.lt_irrefl j)]
    have rhs : (stg G out p k (j + 1))[v]? = some (row (stg G out p k (j + 1)) v) := at_row (by rw [stg_len]; exact hv)
    rw [rhs, stg_row hv]
    by_cases e : j = v
    · subst e
      rw [if_pos rfl, if_pos (by rw [stg_len]; exact hv), if_pos (Nat.lt_succ_self j), List.range_succ (n := k + 1), List.map_append]
      rfl
    · rw [if_neg e, at_row (by rw [stg_len]; exact hv), stg_row hv]
      by_cases c : v < j
      · rw [if_pos c, if_pos (by omega)]
      · rw [if_neg c, if_neg (by omega)]
  · rw [List.getElem?_eq_none (by rw [List.length_set, stg_len]; omega), List.getElem?_eq_none (by rw [stg_len]; omega)]
theorem stg_next (G : Grid) (out : List Nat) (p k : Nat) : stg G out p k G.length = stg G out p (k + 1) 0 := by
  unfold stg
  apply List.map_congr_left
  intro v hv
  rw [List.mem_range] at hv
  rw [if_pos hv, if_neg (by omega)]
theorem stg_cl {G : Grid} {out : List Nat} {p n : Nat} (h : p < G.length) : row (stg G out p n 0) p = cl G out p n := by
  rw [stg_row h, if_neg (by omega)]
  rfl
def prs (G : Grid) (L : List Nat) (n : Nat) : Grid := (List.range L.length).map fun i => cl G (L.take i) (L.getD i 0) n
theorem prs_len (G : Grid) (L : List Nat) (n : Nat) : (prs G L n).length = L.length := by unfold prs; rw [List.length_map, List.length_range]
theorem prs_row {G : Grid} {L : List Nat} {n i : Nat} (h : i < L.length) : row (prs G L n) i = cl G (L.take i) (L.getD i 0) n := by
  unfold row prs
  rw [List.getD_eq_getElem?_getD, List.getElem?_map, List.getElem?_range h]
  rfl
def fold (n : Nat) (P : Grid) : List Nat := P.foldl (fun f q => conv f q n) (1 :: List.replicate n 0)
theorem fold_len (n : Nat) (P : Grid) : (fold n P).length = n + 1 := by
  unfold fold
  have : ∀ (P : Grid) (f : List Nat), f.length = n + 1 → (P.foldl (fun f q => conv f q n) f).length = n + 1 := fun P => by
    induction P with
    | nil => exact fun f h => h
    | cons q P ih => exact fun f _ => ih _ (conv_len _ _ _)
  exact this P _ (by simp)
theorem fold_snoc {n : Nat} {P : Grid} {i : Nat} {q : List Nat} (h : P[i]? = some q) : fold n (P.take (i + 1)) = conv (fold n (P.take i)) q n := by
  unfold fold
  rw [List.take_add_one, h, List.foldl_append]
  rfl
theorem cl_le {G : Grid} (h : SiteOk G) (out : List Nat) (p n : Nat) : ∀ x ∈ cl G out p n, x ≤ 12 ^ n := fun x hx => by
  unfold cl at hx
  obtain ⟨t, ht, rfl⟩ := List.mem_map.mp hx
  rw [List.mem_range] at ht
  exact Nat.le_trans (fw_le h out p t p) (Nat.pow_le_pow_right (by omega) (by omega))
theorem cl_len (G : Grid) (out : List Nat) (p n : Nat) : (cl G out p n).length = n + 1 := by unfold cl; rw [List.length_map, List.length_range]
theorem cnv_le {a b : List Nat} {k B C : Nat} (ha : ∀ x ∈ a, x ≤ B) (hb : ∀ x ∈ b, x ≤ C) : cnv a b k ≤ (k + 1) * (B * C) := by
  rw [← part_full (a := a) (b := b) (i := k + 1) (k := k) (.inl (by omega))]
  exact part_le ha hb
theorem fold_le {n : Nat} {P : Grid} (hP : ∀ q ∈ P, ∀ x ∈ q, x ≤ 12 ^ n) : ∀ i, ∀ x ∈ fold n (P.take i), x ≤ ((n + 1) * 12 ^ n) ^ i := fun i => by
  induction i with
  | zero =>
    intro x hx
    rw [List.take_zero] at hx
    have : x ∈ 1 :: List.replicate n 0 := hx
    rcases List.mem_cons.mp this with rfl | h
    · simp
    · rw [List.eq_of_mem_replicate h]; exact Nat.zero_le _
  | succ i ih =>
    intro x hx
    by_cases c : i < P.length
    · have e : P[i]? = some P[i] := List.getElem?_eq_getElem c
      rw [fold_snoc e] at hx
      unfold conv at hx
      obtain ⟨k, hk, rfl⟩ := List.mem_map.mp hx
      rw [List.mem_range] at hk
      have a := cnv_le (k := k) ih (hP P[i] (List.getElem_mem c))
      have b : (k + 1) * (((n + 1) * 12 ^ n) ^ i * 12 ^ n) ≤ (n + 1) * (((n + 1) * 12 ^ n) ^ i * 12 ^ n) := Nat.mul_le_mul_right _ (by omega)
      have d : (n + 1) * (((n + 1) * 12 ^ n) ^ i * 12 ^ n) = ((n + 1) * 12 ^ n) ^ (i + 1) := by
        rw [Nat.pow_succ, Nat.mul_left_comm]
      omega
    · rw [List.take_of_length_le (by omega)] at hx
      rw [List.take_of_length_le (by omega)] at ih
      have a := ih x hx
      have b : ((n + 1) * 12 ^ n) ^ i ≤ ((n + 1) * 12 ^ n) ^ (i + 1) := Nat.pow_le_pow_right (Nat.mul_pos (by omega) (Nat.pow_pos (by omega))) (by omega)
      omega
theorem big_fold {n i : Nat} (hn : n ≤ 60) (hi : i ≤ 12) : ((n + 1) * 12 ^ n) ^ i < 2 ^ 4000 := by
  have a : (n + 1) * 12 ^ n ≤ 61 * 12 ^ 60 := Nat.mul_le_mul (by omega) (Nat.pow_le_pow_right (by omega) hn)
  have b : ((n + 1) * 12 ^ n) ^ i ≤ (61 * 12 ^ 60) ^ i := Nat.pow_le_pow_left a i
  have c : (61 * 12 ^ 60) ^ i ≤ (61 * 12 ^ 60) ^ 12 := Nat.pow_le_pow_right (by decide) hi
  have d : (61 * 12 ^ 60) ^ 12 < 2 ^ 4000 := by decide +kernel
  omega
theorem big_cl {n : Nat} (hn : n ≤ 60) : 12 ^ n < 2 ^ 4000 := by
  have a : 12 ^ n ≤ 12 ^ 60 := Nat.pow_le_pow_right (by omega) hn
  have d : 12 ^ 60 < 2 ^ 4000 := by decide +kernel
  omega
/-- a new grid behind a new grid -/
theorem GridN.ext {H H1 H2 : Hp} {s d : Addr} {G F : Grid} (h : GridN H H1 s G) (g : GridN H1 H2 d F) (e : Ex H1 H2) (low : ∀ x, H1 x = none → H x = none) : ∃ xs zs, H2 s = some (.lst xs) ∧ H2 d = some (.lst zs) ∧ xs.length = G.length ∧ zs.length = F.length ∧ GridN H (upd H2 s (.lst (xs ++ zs))) s (G ++ F) := by
  obtain ⟨h0, ps, h1, h2, h4, h5, h3⟩ := h
  obtain ⟨g0, qs, g1, g2, g4, g5, g3⟩ := g
  refine ⟨_, _, e _ _ h1, g1, by rw [List.length_map, h2], by rw [List.length_map, g2], h0, ps ++ qs, by rw [upd_same, List.map_append], by rw [List.length_append, List.length_append, h2, g2], ?_, ?_, fun i p q => ?_⟩
  · rw [List.nodup_append]
    refine ⟨h4, g4, fun a ha b hb z => ?_⟩
    subst z
    obtain ⟨i, hi, ei⟩ := List.getElem_of_mem ha
    obtain ⟨j, hj, ej⟩ := List.getElem_of_mem hb
    have a1 := (h3 i a (List.getElem?_eq_some_iff.mpr ⟨hi, ei⟩)).2
    have a2 := (g3 j a (List.getElem?_eq_some_iff.mpr ⟨hj, ej⟩)).1
    rw [a2] at a1
    cases a1
  · intro m
    rcases List.mem_append.mp m with m | m
    · exact h5 m
    · obtain ⟨j, hj, ej⟩ := List.getElem_of_mem m
      have a2 := (g3 j s (List.getElem?_eq_some_iff.mpr ⟨hj, ej⟩)).1
      rw [a2] at h1
      cases h1
  · by_cases hi : i < ps.length
    · rw [List.getElem?_append_left hi] at q
      have := h3 i p q
      have ns : p ≠ s := fun z => h5 (z ▸ List.mem_of_getElem? q)
      refine ⟨this.1, ?_⟩
      rw [upd_ne ns, e _ _ this.2]
      unfold row
      rw [List.getD_eq_getElem?_getD, List.getD_eq_getElem?_getD, List.getElem?_append_left (by omega)]
    · rw [List.getElem?_append_right (by omega)] at q
      have := g3 _ p q
      have ns : p ≠ s := fun z => by
        have a := this.1
        rw [z, h1] at a
        cases a
      refine ⟨low p this.1, ?_⟩
      rw [upd_ne ns, this.2]
      unfold row
      rw [List.getD_eq_getElem?_getD, List.getD_eq_getElem?_getD, List.getElem?_append_right (by omega), h2]
theorem kept_ones (s : List Nat) (k : Nat → Bool) : kept s.length (fun i => k (s.getD i 0)) (fun _ => V.int 1) = (nz ((s.filter k).map fun _ => 1)).map V.int := by
  unfold kept nz
  have e : (List.range s.length).map (fun i => s.getD i 0) = s := by
    apply List.ext_getElem?
    intro j
    by_cases h : j < s.length
    · rw [List.getElem?_map, List.getElem?_range h, List.getElem?_eq_getElem h]
      show some (s.getD j 0) = _
      rw [List.getD_eq_getElem?_getD, List.getElem?_eq_getElem h]
      rfl
    · rw [List.getElem?_eq_none (by rw [List.length_map, List.length_range]; omega), List.getElem?_eq_none (by omega)]
  conv => rhs; rw [← e]
  rw [List.filter_map, List.map_map, List.map_map, List.map_map]
  rfl
/-- the rows that are kept -/
theorem GridAt.keep {H' : Hp} {D : Addr} {ps : List Addr} {G : Grid} (P : List Nat → Bool) (k : Nat → Bool) (hl : ps.length = G.length) (hr : ∀ i p, ps[i]? = some p → H' p = some (.lst ((nz (row G i)).map V.int))) (hk : ∀ i, i < G.length → k i = P (row G i))
    (hD : H' D = some (.lst (kept G.length k fun i => .ref (ps.getD i 0)))) : GridAt H' D (G.filter P) := by
  have eG : G = (List.range G.length).map (row G) := by
    apply List.ext_getElem?
    intro j
    by_cases h : j < G.length
    · rw [List.getElem?_map, List.getElem?_range h, at_row h]
      rfl
    · rw [List.getElem?_eq_none (by omega), List.getElem?_eq_none (by rw [List.length_map, List.length_range]; omega)]
  have eF : G.filter P = ((List.range G.length).filter k).map (row G) := by
    conv => lhs; rw [eG]
    rw [List.filter_map]
    congr 1
    apply List.filter_congr
    intro i hi
    rw [List.mem_range] at hi
    exact (hk i hi).symm
  refine ⟨((List.range G.length).filter k).map fun i => ps.getD i 0, ?_, ?_, fun i p e => ?_⟩
  · rw [hD]
    unfold kept
    rw [List.map_map]
    rfl
  · rw [eF, List.length_map, List.length_map]
  · rw [List.getElem?_map] at e
    cases q : ((List.range G.length).filter k)[i]? with
    | none => rw [q] at e; cases e
    | some j =>
      rw [q] at e
      have hj : j < G.length := List.mem_range.mp (List.mem_filter.mp (List.mem_of_getElem? q)).1
      have hx : ps[j]? = some ps[j] := List.getElem?_eq_getElem (by omega)
      have ep : ps.getD j 0 = p := Option.some.inj e
      rw [List.getD_eq_getElem?_getD, hx] at ep
      obtain rfl : ps[j] = p := ep
      rw [hr j _ hx]
      have : row (G.filter P) i = row G j := by
        rw [eF]
        unfold row
        rw [List.getD_eq_getElem?_getD, List.getElem?_map, q]
        rfl
      rw [this]
end
end BC

set_option Elab.async false
set_option linter.all false
set_option maxRecDepth 100000
set_option maxHeartbeats 4000000
/-! texts: str * int, fields of a width, f-strings of many parts -/
namespace BC
open PySem PySem.Spec PyProof.Rows L2 Evl
/-! ### a text so many times -/
def rMulS : V → V → Hp → VK → Prop := fun x y H Q => ∃ (a : Str) (n : Int), x = .str a ∧ y = .int n ∧ MulOk a n ∧ Q (.str (Txt.mul a n)) H
theorem op_mulS {X : Cx} : OpR X (binaryOp .Mult) rMulS := by
  intro pins s σ H x y v u Q I rx ry h
  obtain ⟨a, n, rfl, rfl, hz, q⟩ := h
  obtain ⟨t, rfl⟩ := rx
  obtain ⟨t', rfl⟩ := ry
  exact SB.mul hz fun t' tk => ⟨.str _, H, I.tok _, ⟨_, rfl⟩, q⟩
theorem x_mulS {a : Str} {n : Int} {H : Hp} {Q : VK} : rMulS (.str a) (.int n) H Q ↔ MulOk a n ∧ Q (.str (Txt.mul a n)) H := ⟨fun ⟨i, j, e1, e2, q⟩ => by cases e1; cases e2; exact q, fun q => ⟨a, n, rfl, rfl, q⟩⟩
theorem mul_sp {n : Int} (h0 : -1000 ≤ n) (h1 : n ≤ 1000) : MulOk ((" " : String) : Str) n := by
  refine ⟨?_, fun h2 _ => ?_, fun h2 _ => ?_⟩
  · rw [decide_eq_false (by omega), decide_eq_false (by omega)]
    rfl
  · have e : (((" " : String) : Str).length : Int) = 1 := by decide
    rw [e]
    have : n ≤ (2 ^ 63 - 1) / 1000 := by omega
    have h3 : (1 : Int) ≤ (2 ^ 63 - 1) / n := (Int.le_ediv_iff_mul_le (by omega)).mpr (by omega)
    omega
  · have e : ((" " : String) : Str).length = 1 := by decide
    rw [e, Nat.one_mul]
    show decide (_ > sizeLine) = false
    exact decide_eq_false (by unfold sizeLine; omega)
/-! ### a field of a width -/
theorem cs_none {K : PySem.W.Frag} {h : Heap} {mc : Str → Option Value} {n : Str} (X : K.In h) (G : h.Ns cStatics mc) (e : PySem.W.nsIn K cStatics n = some none) : mc n = none := by
  obtain ⟨o, es, ep, ho, hd, _, hf⟩ := G
  unfold PySem.W.nsIn at e
  split at e
  · next c d es' n' sl q =>
    have z := X _ _ q
    rw [ho] at z
    cases z
    cases hd
    split at e
    · cases e
    · next he =>
      rw [← hf]
      unfold nsFind findBy
      rw [← Array.find?_toList, he]
      rfl
  · cases e
theorem no_digits {K : PySem.W.Frag} {h : Heap} (X : K.In h) (nl : h.NoLimit) (e : PySem.W.nsIn K cStatics "sys.int_max_str_digits" = some none) : h.NoDigits := by
  obtain ⟨mc, g, _⟩ := nl
  exact ⟨mc, g, cs_none X g e⟩
def tFmtS (sp : Str) (te : TE) : TE := fun σ H Q => te σ H fun x H1 => ∃ i : Int, x = .int i ∧ 0 ≤ i ∧ i < 10 ^ 10 ∧ Q (.str (intSpecTextOf sp i)) H1
theorem x_fmtS {sp : Str} {te : TE} {σ : L2.St} {H : Hp} {Q : VK} : tFmtS sp te σ H Q = te σ H (fun x H1 => ∃ i : Int, x = .int i ∧ 0 ≤ i ∧ i < 10 ^ 10 ∧ Q (.str (intSpecTextOf sp i)) H1) := rfl
theorem k_fmtS {X : Cx} {K : PySem.W.Frag} {e es : Expr} {te : TE} {sp : Str} {pos : Pos} (hK : X.K = K) (hq : PySem.W.nsIn K cStatics "sys.int_max_str_digits" = some none) (he : PE X e te) (hs : PE X es (tC (.str sp))) (hok : intSpecOk sp = true) (hsz : sp.length ≤ sizeLine) : PE X (.FormattedValue e (-1) (some es) pos) (tFmtS sp te) := by
  subst hK
  refine ⟨fun pins s σ H Q I h => ?_⟩
  refine wpAny_FormattedValue_spec (thn (he.run pins s σ H _ I h) fun v s1 hv => ?_)
  obtain ⟨x, H1, I1, r1, i, rfl, h0, h1, q⟩ := hv
  obtain ⟨t, rfl⟩ := r1
  refine thn (hs.run pins s1 σ H1 (fun y H2 => y = .str sp ∧ H2 = H1) I1 ⟨rfl, rfl⟩) fun u s2 hu => ?_
  obtain ⟨y, H2, I2, r2, rfl, rfl⟩ := hu
  obtain ⟨t2, rfl⟩ := r2
  exact ⟨sp, t2, rfl, formatField_int_specOf (no_digits I2.kIn I2.nolimit hq) (lt_digitLimit_of_lt (by omega)) hok (fun W _ _ => ⟨.str _, H2, I2.tok _, ⟨_, rfl⟩, q⟩) hsz⟩
theorem fmt3 : ∀ i : Fin 300, intSpecTextOf ((">3" : String) : Str) ((i.val : Nat) : Int) = Txt.mul ((" " : String) : Str) (3 - ((((toString ((i.val : Nat) : Int) : String) : Str).length : Nat) : Int)) ++ ((toString ((i.val : Nat) : Int) : String) : Str) := by decide +kernel
theorem fmt4 : ∀ i : Fin 40, intSpecTextOf ((">4" : String) : Str) ((i.val : Nat) : Int) = Txt.mul ((" " : String) : Str) (4 - ((((toString ((i.val : Nat) : Int) : String) : Str).length : Nat) : Int)) ++ ((toString ((i.val : Nat) : Int) : String) : Str) := by decide +kernel
theorem len3 : ∀ i : Fin 1000, 1 ≤ ((toString ((i.val : Nat) : Int) : String) : Str).length ∧ ((toString ((i.val : Nat) : Int) : String) : Str).length ≤ 3 := by decide +kernel
/-! ### f-strings -/
theorem x_js0 {acc : Str} {σ : L2.St} {H : Hp} {Q : Str → Hp → Prop} : tJs [] acc σ H Q = Q acc H := rfl
theorem x_js {t : TE} {ts : List TE} {acc : Str} {σ : L2.St} {H : Hp} {Q : Str → Hp → Prop} : tJs (t :: ts) acc σ H Q = t σ H (fun x H1 => ∃ y : Str, x = .str y ∧ (acc ++ y).length ≤ sizeLine ∧ tJs ts (acc ++ y) σ H1 Q) := rfl
def tJn (ts : List TE) : TE := fun σ H Q => tJs ts Str.empty σ H fun out H1 => Q (.str out) H1
theorem x_jn {ts : List TE} {σ : L2.St} {H : Hp} {Q : VK} : tJn ts σ H Q = tJs ts Str.empty σ H (fun out H1 => Q (.str out) H1) := rfl
theorem k_joined {X : Cx} {v1 v2 : Expr} {rest : List Expr} {ts : List TE} {pos : Pos} (h : PJ X (v1 :: v2 :: rest) ts) : PE X (.JoinedStr (v1 :: v2 :: rest) pos) (tJn ts) := pe_joined h
theorem x_fmt {te : TE} {σ : L2.St} {H : Hp} {Q : VK} : tFmt te σ H Q = te σ H (fun x H1 => (∃ y : Str, x = .str y ∧ y.length ≤ sizeLine ∧ Q (.str y) H1) ∨ ∃ i : Int, x = .int i ∧ i.natAbs.log2 < 1920 ∧ Q (.str (toString i)) H1) := rfl
/-! ### join -/
def rJoin (K : PySem.W.Frag) : V → List V → Hp → VK → Prop := fun x xs H Q => ∃ a p, ∃ ys : List Str, x = .str a ∧ xs = [.ref p] ∧ (SqL K H p (ys.map V.str) ∨ SqT K H p (ys.map V.str)) ∧ (ys.map (·.length)).sum + ys.length * a.length ≤ 16777216 ∧ Q (.str (Txt.join a ys)) H
theorem k_join {X : Cx} {K : PySem.W.Frag} (hK : X.K = K) : MtR X "str.join" (rJoin K) := by subst hK; exact mt_join
theorem joinL {K : PySem.W.Frag} {H : Hp} {Q : VK} {a : Str} {p : Addr} {ys : List Str} (h : SqL K H p (ys.map V.str)) (hz : (ys.map (·.length)).sum + ys.length * a.length ≤ 16777216) (q : Q (.str (Txt.join a ys)) H) : rJoin K (.str a) [.ref p] H Q := ⟨a, p, ys, rfl, rfl, .inl h, hz, q⟩
def toStrs (t : List Int) : List Str := t.map fun n => ((toString n : String) : Str)
theorem len3' {n : Int} (h0 : 0 ≤ n) (h1 : n < 1000) : 1 ≤ ((toString n : String) : Str).length ∧ ((toString n : String) : Str).length ≤ 3 := by
  have h := len3 ⟨n.toNat, by omega⟩
  rw [show ((n.toNat : Nat) : Int) = n by omega] at h
  exact h
theorem strs_sum : ∀ {t : List Int}, (∀ x ∈ t, 0 ≤ x ∧ x < 1000) → ((toStrs t).map (·.length)).sum ≤ 3 * t.length
  | [], _ => Nat.le_refl _
  | x :: t, h => by
    have a := strs_sum (t := t) fun y hy => h y (List.mem_cons_of_mem _ hy)
    have b := (len3' (h x List.mem_cons_self).1 (h x List.mem_cons_self).2).2
    show ((toString x : String) : Str).length + ((toStrs t).map (·.length)).sum ≤ _
    rw [List.length_cons]
    omega
/-- a line of the list -/
def lineOf (i : Nat) (p : Int) (t : List Int) : Str := Txt.mul ((" " : String) : Str) (3 - ((((toString ((i : Nat) : Int) : String) : Str).length : Nat) : Int)) ++ ((toString ((i : Nat) : Int) : String) : Str) ++ Txt.mul ((" " : String) : Str) (4 - ((((toString p : String) : Str).length : Nat) : Int)) ++ ((toString p : String) : Str) ++ (("  " : String) : Str) ++ Txt.join ((" > " : String) : Str) (toStrs t)
theorem line_prog {i : Nat} {p : Int} {t : List Int} (hi : i < 300) (h0 : 0 ≤ p) (h1 : p < 40) : Str.empty ++ intSpecTextOf ((">3" : String) : Str) ((i : Nat) : Int) ++ intSpecTextOf ((">4" : String) : Str) p ++ (("  " : String) : Str) ++ Txt.join ((" > " : String) : Str) (toStrs t) = lineOf i p t := by
  have a := fmt3 ⟨i, hi⟩
  have b := fmt4 ⟨p.toNat, by omega⟩
  rw [show ((p.toNat : Nat) : Int) = p by omega] at b
  have a : intSpecTextOf ((">3" : String) : Str) ((i : Nat) : Int) = _ := a
  rw [a, b]
  unfold lineOf
  refine Str.ext' ?_
  have e : Str.empty.cps = #[] := rfl
  apply Array.toList_inj.mp
  simp only [cps_toList_append, e, List.append_assoc]
  rfl
theorem fl3 : ∀ i : Fin 300, (intSpecTextOf ((">3" : String) : Str) ((i.val : Nat) : Int)).length ≤ 3 := by decide +kernel
theorem fl4 : ∀ i : Fin 40, (intSpecTextOf ((">4" : String) : Str) ((i.val : Nat) : Int)).length ≤ 4 := by decide +kernel
theorem join_len {t : List Int} (h : ∀ x ∈ t, 0 ≤ x ∧ x < 1000) : (Txt.join ((" > " : String) : Str) (toStrs t)).length ≤ 6 * t.length := by
  have a := strs_sum h
  have e : ((" > " : String) : Str).length = 3 := by decide
  have b := StrLaws.join_length_le ((" > " : String) : Str) (toStrs t)
  rw [e] at b
  have l : (toStrs t).length = t.length := List.length_map _
  rw [l] at b
  have g : Txt.join ((" > " : String) : Str) (toStrs t) = Str.join ((" > " : String) : Str) (toStrs t) := StrLaws.glued_eq_join _ _
  rw [g]
  omega
end BC

set_option Elab.async false
set_option linter.all false
set_option maxRecDepth 100000
set_option maxHeartbeats 4000000
namespace LW
open PySem PySem.Spec PyProof.Rows L2 BC Evl TR EF L2.DX SUX
def topS (i : Nat) : Stmt := PySem.Challenge.pw_breadcrumbs_k17_visits_at_once.main.body.getD i (.Pass ⟨0, 0, 0, 0⟩)
abbrev s_is_integer : Stmt := topS 9
theorem sc_is_integer : FnScope ["value", "least", "most"] ["value", "least", "most"] (defScope s_is_integer) := ⟨rfl, rfl, rfl, by decide +kernel, rfl, by decide +kernel, by decide +kernel⟩
abbrev s_is_page : Stmt := topS 12
theorem sc_is_page : FnScope ["value"] ["value"] (defScope s_is_page) := ⟨rfl, rfl, rfl, by decide +kernel, rfl, by decide +kernel, by decide +kernel⟩
abbrev s_visited : Stmt := topS 16
theorem sc_visited : FnScope ["trail", "page"] ["trail", "page"] (defScope s_visited) := ⟨rfl, rfl, rfl, by decide +kernel, rfl, by decide +kernel, by decide +kernel⟩
abbrev s_exits_in : Stmt := topS 18
theorem sc_exits_in : FnScope ["visits", "found", "page", "later"] ["visits"] (defScope s_exits_in) := ⟨rfl, rfl, rfl, by decide +kernel, rfl, by decide +kernel, by decide +kernel⟩
abbrev s_is_pair : Stmt := topS 19
theorem sc_is_pair : FnScope ["value"] ["value"] (defScope s_is_pair) := ⟨rfl, rfl, rfl, by decide +kernel, rfl, by decide +kernel, by decide +kernel⟩
abbrev s_leads_to_root : Stmt := topS 20
theorem sc_leads_to_root : FnScope ["exit_of", "page", "root", "step"] ["exit_of", "page", "root"] (defScope s_leads_to_root) := ⟨rfl, rfl, rfl, by decide +kernel, rfl, by decide +kernel, by decide +kernel⟩
abbrev s_are_exits : Stmt := topS 21
theorem sc_are_exits : FnScope ["value", "pages", "roots", "exit_of", "page", "later", "pair", "other"] ["value"] (defScope s_are_exits) := ⟨rfl, rfl, rfl, by decide +kernel, rfl, by decide +kernel, by decide +kernel⟩
abbrev s_law_source : Stmt := topS 33
theorem sc_law_source : FnScope ["_law_cell", "_law_number"] ["_law_cell", "_law_number"] (defScope s_law_source) := ⟨rfl, rfl, rfl, by decide +kernel, rfl, by decide +kernel, by decide +kernel⟩
abbrev s_law_draw : Stmt := topS 34
theorem sc_law_draw : FnScope ["_law_source_here", "_law_many", "_law_digit"] ["_law_source_here", "_law_many"] (defScope s_law_draw) := ⟨rfl, rfl, rfl, by decide +kernel, rfl, by decide +kernel, by decide +kernel⟩
abbrev s_law_cells : Stmt := topS 35
theorem sc_law_cells : FnScope ["_law_script", "_law_many"] ["_law_script", "_law_many"] (defScope s_law_cells) := ⟨rfl, rfl, rfl, by decide +kernel, rfl, by decide +kernel, by decide +kernel⟩
abbrev s_law_same : Stmt := topS 36
theorem sc_law_same : FnScope ["_law_found", "_law_expected", "_law_one", "_law_other"] ["_law_found", "_law_expected"] (defScope s_law_same) := ⟨rfl, rfl, rfl, by decide +kernel, rfl, by decide +kernel, by decide +kernel⟩
abbrev s_law_played : Stmt := topS 37
theorem sc_law_played : FnScope ["_law_state", "_law_line_here", "_law_bound", "_law_told", "_law_page", "_law_row", "_law_done"] ["_law_state", "_law_line_here", "_law_bound"] (defScope s_law_played) := ⟨rfl, rfl, rfl, by decide +kernel, rfl, by decide +kernel, by decide +kernel⟩
abbrev s_law_due : Stmt := topS 38
theorem sc_law_due : FnScope ["_law_state", "_law_found", "_law_chain", "_law_row", "_law_done", "_law_page", "_law_follower"] ["_law_state"] (defScope s_law_due) := ⟨rfl, rfl, rfl, by decide +kernel, rfl, by decide +kernel, by decide +kernel⟩
abbrev s_law_seen : Stmt := topS 39
theorem sc_law_seen : FnScope ["_law_one", "_law_told", "_law_page"] ["_law_one"] (defScope s_law_seen) := ⟨rfl, rfl, rfl, by decide +kernel, rfl, by decide +kernel, by decide +kernel⟩
abbrev s_law_line : Stmt := topS 40
theorem sc_law_line : FnScope ["_law_source_here", "_law_row", "_law_size", "_law_many", "_law_found", "_law_k", "_law_some"] ["_law_source_here", "_law_row", "_law_size", "_law_many"] (defScope s_law_line) := ⟨rfl, rfl, rfl, by decide +kernel, rfl, by decide +kernel, by decide +kernel⟩
abbrev s_law_visit : Stmt := topS 41
theorem sc_law_visit : FnScope ["_law_one", "_law_g"] ["_law_one", "_law_g"] (defScope s_law_visit) := ⟨rfl, rfl, rfl, by decide +kernel, rfl, by decide +kernel, by decide +kernel⟩
abbrev s_law_holds : Stmt := topS 42
theorem sc_law_holds : FnScope ["_law_source_here", "_law_script", "_law_sizes", "_law_turn", "_law_one", "_law_state", "_law_size", "_law_many", "_law_line_here", "_law_after", "_law_told"] ["_law_source_here", "_law_script"] (defScope s_law_holds) := ⟨rfl, rfl, rfl, by decide +kernel, rfl, by decide +kernel, by decide +kernel⟩
abbrev s_law : Stmt := topS 43
theorem sc_law : FnScope ["_law_script", "_law_k", "_law_cell"] ["_law_script"] (defScope s_law) := ⟨rfl, rfl, rfl, by decide +kernel, rfl, by decide +kernel, by decide +kernel⟩
abbrev s_Effect___init : Stmt := inClass (topS 22) 0
theorem sc_Effect___init : FnScope ["self", "first", "exits", "is_valid"] ["self", "first", "exits"] (defScope s_Effect___init) := ⟨rfl, rfl, rfl, by decide +kernel, rfl, by decide +kernel, by decide +kernel⟩
abbrev s_Effect_first : Stmt := inClass (topS 22) 1
theorem sc_Effect_first : FnScope ["self"] ["self"] (defScope s_Effect_first) := ⟨rfl, rfl, rfl, by decide +kernel, rfl, by decide +kernel, by decide +kernel⟩
abbrev s_Effect_exits : Stmt := inClass (topS 22) 2
theorem sc_Effect_exits : FnScope ["self"] ["self"] (defScope s_Effect_exits) := ⟨rfl, rfl, rfl, by decide +kernel, rfl, by decide +kernel, by decide +kernel⟩
abbrev s_Effect___len : Stmt := inClass (topS 22) 5
theorem sc_Effect___len : FnScope ["self"] ["self"] (defScope s_Effect___len) := ⟨rfl, rfl, rfl, by decide +kernel, rfl, by decide +kernel, by decide +kernel⟩
abbrev s_Trail___init : Stmt := inClass (topS 31) 1
theorem sc_Trail___init : FnScope ["self"] ["self"] (defScope s_Trail___init) := ⟨rfl, rfl, rfl, by decide +kernel, rfl, by decide +kernel, by decide +kernel⟩
abbrev s_Trail_trail : Stmt := inClass (topS 31) 4
theorem sc_Trail_trail : FnScope ["self"] ["self"] (defScope s_Trail_trail) := ⟨rfl, rfl, rfl, by decide +kernel, rfl, by decide +kernel, by decide +kernel⟩
abbrev s_Trail_visits : Stmt := inClass (topS 31) 5
theorem sc_Trail_visits : FnScope ["self"] ["self"] (defScope s_Trail_visits) := ⟨rfl, rfl, rfl, by decide +kernel, rfl, by decide +kernel, by decide +kernel⟩
abbrev s_Trail_effect : Stmt := inClass (topS 31) 6
theorem sc_Trail_effect : FnScope ["self"] ["self"] (defScope s_Trail_effect) := ⟨rfl, rfl, rfl, by decide +kernel, rfl, by decide +kernel, by decide +kernel⟩
abbrev s_Trail___len : Stmt := inClass (topS 31) 7
theorem sc_Trail___len : FnScope ["self"] ["self"] (defScope s_Trail___len) := ⟨rfl, rfl, rfl, by decide +kernel, rfl, by decide +kernel, by decide +kernel⟩
abbrev s_Trail___contains : Stmt := inClass (topS 31) 8
theorem sc_Trail___contains : FnScope ["self", "value"] ["self", "value"] (defScope s_Trail___contains) := ⟨rfl, rfl, rfl, by decide +kernel, rfl, by decide +kernel, by decide +kernel⟩
abbrev s_Trail_shortened : Stmt := inClass (topS 31) 12
theorem sc_Trail_shortened : FnScope ["self", "trail"] ["self", "trail"] (defScope s_Trail_shortened) := ⟨rfl, rfl, rfl, by decide +kernel, rfl, by decide +kernel, by decide +kernel⟩
abbrev s_Trail_after : Stmt := inClass (topS 31) 13
theorem sc_Trail_after : FnScope ["self", "pages", "page", "trail", "found"] ["self", "pages"] (defScope s_Trail_after) := ⟨rfl, rfl, rfl, by decide +kernel, rfl, by decide +kernel, by decide +kernel⟩
abbrev s_Trail_commit : Stmt := inClass (topS 31) 14
theorem sc_Trail_commit : FnScope ["self", "pages", "visits", "effect", "trail", "found", "exits", "page"] ["self", "pages"] (defScope s_Trail_commit) := ⟨rfl, rfl, rfl, by decide +kernel, rfl, by decide +kernel, by decide +kernel⟩
abbrev s_Trail_visit : Stmt := inClass (topS 31) 15
theorem sc_Trail_visit : FnScope ["self", "pages"] ["self", "pages"] (defScope s_Trail_visit) := ⟨rfl, rfl, rfl, by decide +kernel, rfl, by decide +kernel, by decide +kernel⟩
abbrev s_Trail_undo : Stmt := inClass (topS 31) 18
theorem sc_Trail_undo : FnScope ["self"] ["self"] (defScope s_Trail_undo) := ⟨rfl, rfl, rfl, by decide +kernel, rfl, by decide +kernel, by decide +kernel⟩
structure Txt (P : Program) (K : PySem.W.Frag) (mg : Str → Option Value) where
  C_BreadcrumbsError : Addr
  g_BreadcrumbsError : mg "BreadcrumbsError" = some (.ref C_BreadcrumbsError)
  k_BreadcrumbsError : PySem.W.keepIn K (.ref C_BreadcrumbsError) = true
  x_BreadcrumbsError : PySem.W.excIn K C_BreadcrumbsError [.type "ValueError", .type "Exception", .type "BaseException", .type "object"] "ValueError.__new__" = true
  e_BreadcrumbsError : ExcC K C_BreadcrumbsError
  t_BreadcrumbsError : PySem.W.typeIn K (.ref C_BreadcrumbsError) = some (.type "type")
  b_BreadcrumbsError : PySem.W.subIn K (.ref C_BreadcrumbsError) (.type "BaseException") = some true
  r_BreadcrumbsError : MroIs K C_BreadcrumbsError [C_BreadcrumbsError]
  C_EmptyHistoryError : Addr
  g_EmptyHistoryError : mg "EmptyHistoryError" = some (.ref C_EmptyHistoryError)
  k_EmptyHistoryError : PySem.W.keepIn K (.ref C_EmptyHistoryError) = true
  x_EmptyHistoryError : PySem.W.excIn K C_EmptyHistoryError [.type "ValueError", .type "Exception", .type "BaseException", .type "object"] "ValueError.__new__" = true
  e_EmptyHistoryError : ExcC K C_EmptyHistoryError
  t_EmptyHistoryError : PySem.W.typeIn K (.ref C_EmptyHistoryError) = some (.type "type")
  b_EmptyHistoryError : PySem.W.subIn K (.ref C_EmptyHistoryError) (.type "BaseException") = some true
  r_EmptyHistoryError : MroIs K C_EmptyHistoryError [C_EmptyHistoryError, C_BreadcrumbsError]
  C_InvalidEffectError : Addr
  g_InvalidEffectError : mg "InvalidEffectError" = some (.ref C_InvalidEffectError)
  k_InvalidEffectError : PySem.W.keepIn K (.ref C_InvalidEffectError) = true
  x_InvalidEffectError : PySem.W.excIn K C_InvalidEffectError [.type "ValueError", .type "Exception", .type "BaseException", .type "object"] "ValueError.__new__" = true
  e_InvalidEffectError : ExcC K C_InvalidEffectError
  t_InvalidEffectError : PySem.W.typeIn K (.ref C_InvalidEffectError) = some (.type "type")
  b_InvalidEffectError : PySem.W.subIn K (.ref C_InvalidEffectError) (.type "BaseException") = some true
  r_InvalidEffectError : MroIs K C_InvalidEffectError [C_InvalidEffectError, C_BreadcrumbsError]
  C_InvalidFormatError : Addr
  g_InvalidFormatError : mg "InvalidFormatError" = some (.ref C_InvalidFormatError)
  k_InvalidFormatError : PySem.W.keepIn K (.ref C_InvalidFormatError) = true
  x_InvalidFormatError : PySem.W.excIn K C_InvalidFormatError [.type "ValueError", .type "Exception", .type "BaseException", .type "object"] "ValueError.__new__" = true
  e_InvalidFormatError : ExcC K C_InvalidFormatError
  t_InvalidFormatError : PySem.W.typeIn K (.ref C_InvalidFormatError) = some (.type "type")
  b_InvalidFormatError : PySem.W.subIn K (.ref C_InvalidFormatError) (.type "BaseException") = some true
  r_InvalidFormatError : MroIs K C_InvalidFormatError [C_InvalidFormatError, C_BreadcrumbsError]
  C_InvalidPageError : Addr
  g_InvalidPageError : mg "InvalidPageError" = some (.ref C_InvalidPageError)
  k_InvalidPageError : PySem.W.keepIn K (.ref C_InvalidPageError) = true
  x_InvalidPageError : PySem.W.excIn K C_InvalidPageError [.type "ValueError", .type "Exception", .type "BaseException", .type "object"] "ValueError.__new__" = true
  e_InvalidPageError : ExcC K C_InvalidPageError
  t_InvalidPageError : PySem.W.typeIn K (.ref C_InvalidPageError) = some (.type "type")
  b_InvalidPageError : PySem.W.subIn K (.ref C_InvalidPageError) (.type "BaseException") = some true
  r_InvalidPageError : MroIs K C_InvalidPageError [C_InvalidPageError, C_BreadcrumbsError]
  C_InvalidTrailError : Addr
  g_InvalidTrailError : mg "InvalidTrailError" = some (.ref C_InvalidTrailError)
  k_InvalidTrailError : PySem.W.keepIn K (.ref C_InvalidTrailError) = true
  x_InvalidTrailError : PySem.W.excIn K C_InvalidTrailError [.type "ValueError", .type "Exception", .type "BaseException", .type "object"] "ValueError.__new__" = true
  e_InvalidTrailError : ExcC K C_InvalidTrailError
  t_InvalidTrailError : PySem.W.typeIn K (.ref C_InvalidTrailError) = some (.type "type")
  b_InvalidTrailError : PySem.W.subIn K (.ref C_InvalidTrailError) (.type "BaseException") = some true
  r_InvalidTrailError : MroIs K C_InvalidTrailError [C_InvalidTrailError, C_BreadcrumbsError]
  nd : [C_BreadcrumbsError, C_EmptyHistoryError, C_InvalidEffectError, C_InvalidFormatError, C_InvalidPageError, C_InvalidTrailError].Nodup
  C_Effect : Addr
  cl_Effect : Cls K C_Effect
  g_Effect : mg "Effect" = some (.ref C_Effect)
  na_Effect_begin_page : NoAttr K C_Effect "begin_page"
  na_Effect_pairs : NoAttr K C_Effect "pairs"
  na_Effect_exit_of : NoAttr K C_Effect "exit_of"
  C_Trail : Addr
  cl_Trail : Cls K C_Trail
  g_Trail : mg "Trail" = some (.ref C_Trail)
  na_Trail_now : NoAttr K C_Trail "now"
  na_Trail_past : NoAttr K C_Trail "past"
  f_is_integer : Addr
  fd_is_integer : FuncData
  F_is_integer : Fun K "is_integer" "is_integer" s_is_integer f_is_integer fd_is_integer
  m_is_integer : mg "is_integer" = some (.ref f_is_integer)
  b_is_integer : Binds K fd_is_integer ["value", "least", "most"] []
  f_is_page : Addr
  fd_is_page : FuncData
  F_is_page : Fun K "is_page" "is_page" s_is_page f_is_page fd_is_page
  m_is_page : mg "is_page" = some (.ref f_is_page)
  b_is_page : Binds K fd_is_page ["value"] []
  f_visited : Addr
  fd_visited : FuncData
  F_visited : Fun K "visited" "visited" s_visited f_visited fd_visited
  m_visited : mg "visited" = some (.ref f_visited)
  b_visited : Binds K fd_visited ["trail", "page"] []
  f_exits_in : Addr
  fd_exits_in : FuncData
  F_exits_in : Fun K "exits_in" "exits_in" s_exits_in f_exits_in fd_exits_in
  m_exits_in : mg "exits_in" = some (.ref f_exits_in)
  b_exits_in : Binds K fd_exits_in ["visits"] []
  f_is_pair : Addr
  fd_is_pair : FuncData
  F_is_pair : Fun K "is_pair" "is_pair" s_is_pair f_is_pair fd_is_pair
  m_is_pair : mg "is_pair" = some (.ref f_is_pair)
  b_is_pair : Binds K fd_is_pair ["value"] []
  f_leads_to_root : Addr
  fd_leads_to_root : FuncData
  F_leads_to_root : Fun K "leads_to_root" "leads_to_root" s_leads_to_root f_leads_to_root fd_leads_to_root
  m_leads_to_root : mg "leads_to_root" = some (.ref f_leads_to_root)
  b_leads_to_root : Binds K fd_leads_to_root ["exit_of", "page", "root"] []
  f_are_exits : Addr
  fd_are_exits : FuncData
  F_are_exits : Fun K "are_exits" "are_exits" s_are_exits f_are_exits fd_are_exits
  m_are_exits : mg "are_exits" = some (.ref f_are_exits)
  b_are_exits : Binds K fd_are_exits ["value"] []
  f_law_source : Addr
  fd_law_source : FuncData
  F_law_source : Fun K "_law_source" "_law_source" s_law_source f_law_source fd_law_source
  m_law_source : mg "_law_source" = some (.ref f_law_source)
  b_law_source : Binds K fd_law_source ["_law_cell", "_law_number"] []
  f_law_draw : Addr
  fd_law_draw : FuncData
  F_law_draw : Fun K "_law_draw" "_law_draw" s_law_draw f_law_draw fd_law_draw
  m_law_draw : mg "_law_draw" = some (.ref f_law_draw)
  b_law_draw : Binds K fd_law_draw ["_law_source_here", "_law_many"] []
  f_law_cells : Addr
  fd_law_cells : FuncData
  F_law_cells : Fun K "_law_cells" "_law_cells" s_law_cells f_law_cells fd_law_cells
  m_law_cells : mg "_law_cells" = some (.ref f_law_cells)
  b_law_cells : Binds K fd_law_cells ["_law_script", "_law_many"] []
  f_law_same : Addr
  fd_law_same : FuncData
  F_law_same : Fun K "_law_same" "_law_same" s_law_same f_law_same fd_law_same
  m_law_same : mg "_law_same" = some (.ref f_law_same)
  b_law_same : Binds K fd_law_same ["_law_found", "_law_expected"] []
  f_law_played : Addr
  fd_law_played : FuncData
  F_law_played : Fun K "_law_played" "_law_played" s_law_played f_law_played fd_law_played
  m_law_played : mg "_law_played" = some (.ref f_law_played)
  b_law_played : Binds K fd_law_played ["_law_state", "_law_line_here", "_law_bound"] []
  f_law_due : Addr
  fd_law_due : FuncData
  F_law_due : Fun K "_law_due" "_law_due" s_law_due f_law_due fd_law_due
  m_law_due : mg "_law_due" = some (.ref f_law_due)
  b_law_due : Binds K fd_law_due ["_law_state"] []
  f_law_seen : Addr
  fd_law_seen : FuncData
  F_law_seen : Fun K "_law_seen" "_law_seen" s_law_seen f_law_seen fd_law_seen
  m_law_seen : mg "_law_seen" = some (.ref f_law_seen)
  b_law_seen : Binds K fd_law_seen ["_law_one"] []
  f_law_line : Addr
  fd_law_line : FuncData
  F_law_line : Fun K "_law_line" "_law_line" s_law_line f_law_line fd_law_line
  m_law_line : mg "_law_line" = some (.ref f_law_line)
  b_law_line : Binds K fd_law_line ["_law_source_here", "_law_row", "_law_size", "_law_many"] []
  f_law_visit : Addr
  fd_law_visit : FuncData
  F_law_visit : Fun K "_law_visit" "_law_visit" s_law_visit f_law_visit fd_law_visit
  m_law_visit : mg "_law_visit" = some (.ref f_law_visit)
  b_law_visit : Binds K fd_law_visit ["_law_one", "_law_g"] []
  f_law_holds : Addr
  fd_law_holds : FuncData
  F_law_holds : Fun K "_law_holds" "_law_holds" s_law_holds f_law_holds fd_law_holds
  m_law_holds : mg "_law_holds" = some (.ref f_law_holds)
  b_law_holds : Binds K fd_law_holds ["_law_source_here", "_law_script"] []
  f_law : Addr
  fd_law : FuncData
  F_law : Fun K "law" "law" s_law f_law fd_law
  m_law : mg "law" = some (.ref f_law)
  b_law : Binds K fd_law ["_law_script"] []
  f_Effect___init : Addr
  fd_Effect___init : FuncData
  F_Effect___init : Fun K "__init__" "Effect.__init__" s_Effect___init f_Effect___init fd_Effect___init
  b_Effect___init : Binds K fd_Effect___init ["self", "first", "exits"] []
  M_Effect : Mk K C_Effect f_Effect___init
  f_Effect_first : Addr
  fd_Effect_first : FuncData
  F_Effect_first : Fun K "first" "Effect.first" s_Effect_first f_Effect_first fd_Effect_first
  b_Effect_first : Binds K fd_Effect_first ["self"] []
  q_Effect_first : Addr
  p_Effect_first : PropOf K C_Effect "first" q_Effect_first f_Effect_first
  f_Effect_exits : Addr
  fd_Effect_exits : FuncData
  F_Effect_exits : Fun K "exits" "Effect.exits" s_Effect_exits f_Effect_exits fd_Effect_exits
  b_Effect_exits : Binds K fd_Effect_exits ["self"] []
  q_Effect_exits : Addr
  p_Effect_exits : PropOf K C_Effect "exits" q_Effect_exits f_Effect_exits
  f_Effect___len : Addr
  fd_Effect___len : FuncData
  F_Effect___len : Fun K "__len__" "Effect.__len__" s_Effect___len f_Effect___len fd_Effect___len
  b_Effect___len : Binds K fd_Effect___len ["self"] []
  h_Effect___len : PySem.W.findIn K (.ref C_Effect) "__len__" = some (some (.ref f_Effect___len))
  i_Effect___len : PySem.W.isFn K (.ref f_Effect___len) = true
  f_Trail___init : Addr
  fd_Trail___init : FuncData
  F_Trail___init : Fun K "__init__" "Trail.__init__" s_Trail___init f_Trail___init fd_Trail___init
  b_Trail___init : Binds K fd_Trail___init ["self"] []
  f_Trail_trail : Addr
  fd_Trail_trail : FuncData
  F_Trail_trail : Fun K "trail" "Trail.trail" s_Trail_trail f_Trail_trail fd_Trail_trail
  b_Trail_trail : Binds K fd_Trail_trail ["self"] []
  q_Trail_trail : Addr
  p_Trail_trail : ∀ C ∈ [C_Trail], PropOf K C "trail" q_Trail_trail f_Trail_trail
  f_Trail_visits : Addr
  fd_Trail_visits : FuncData
  F_Trail_visits : Fun K "visits" "Trail.visits" s_Trail_visits f_Trail_visits fd_Trail_visits
  b_Trail_visits : Binds K fd_Trail_visits ["self"] []
  q_Trail_visits : Addr
  p_Trail_visits : ∀ C ∈ [C_Trail], PropOf K C "visits" q_Trail_visits f_Trail_visits
  f_Trail_effect : Addr
  fd_Trail_effect : FuncData
  F_Trail_effect : Fun K "effect" "Trail.effect" s_Trail_effect f_Trail_effect fd_Trail_effect
  b_Trail_effect : Binds K fd_Trail_effect ["self"] []
  q_Trail_effect : Addr
  p_Trail_effect : ∀ C ∈ [C_Trail], PropOf K C "effect" q_Trail_effect f_Trail_effect
  f_Trail___len : Addr
  fd_Trail___len : FuncData
  F_Trail___len : Fun K "__len__" "Trail.__len__" s_Trail___len f_Trail___len fd_Trail___len
  b_Trail___len : Binds K fd_Trail___len ["self"] []
  m_Trail___len : ∀ C ∈ [C_Trail], SpecOf K C "__len__" f_Trail___len
  f_Trail___contains : Addr
  fd_Trail___contains : FuncData
  F_Trail___contains : Fun K "__contains__" "Trail.__contains__" s_Trail___contains f_Trail___contains fd_Trail___contains
  b_Trail___contains : Binds K fd_Trail___contains ["self", "value"] []
  m_Trail___contains : ∀ C ∈ [C_Trail], SpecOf K C "__contains__" f_Trail___contains
  f_Trail_shortened : Addr
  fd_Trail_shortened : FuncData
  F_Trail_shortened : Fun K "shortened" "Trail.shortened" s_Trail_shortened f_Trail_shortened fd_Trail_shortened
  b_Trail_shortened : Binds K fd_Trail_shortened ["self", "trail"] []
  m_Trail_shortened : ∀ C ∈ [C_Trail], Meth K C "shortened" f_Trail_shortened
  f_Trail_after : Addr
  fd_Trail_after : FuncData
  F_Trail_after : Fun K "after" "Trail.after" s_Trail_after f_Trail_after fd_Trail_after
  b_Trail_after : Binds K fd_Trail_after ["self", "pages"] []
  m_Trail_after : ∀ C ∈ [C_Trail], Meth K C "after" f_Trail_after
  f_Trail_commit : Addr
  fd_Trail_commit : FuncData
  F_Trail_commit : Fun K "commit" "Trail.commit" s_Trail_commit f_Trail_commit fd_Trail_commit
  b_Trail_commit : Binds K fd_Trail_commit ["self", "pages"] []
  m_Trail_commit : ∀ C ∈ [C_Trail], Meth K C "commit" f_Trail_commit
  f_Trail_visit : Addr
  fd_Trail_visit : FuncData
  F_Trail_visit : Fun K "visit" "Trail.visit" s_Trail_visit f_Trail_visit fd_Trail_visit
  m_Trail_visit : ∀ C ∈ [C_Trail], Meth K C "visit" f_Trail_visit
  f_Trail_undo : Addr
  fd_Trail_undo : FuncData
  F_Trail_undo : Fun K "undo" "Trail.undo" s_Trail_undo f_Trail_undo fd_Trail_undo
  b_Trail_undo : Binds K fd_Trail_undo ["self"] []
  m_Trail_undo : ∀ C ∈ [C_Trail], Meth K C "undo" f_Trail_undo
  M_Trail : Mk K C_Trail f_Trail___init
  ma_is_page_trails : mg "is_page_trails" = some (.ref f_is_page)
  t_MOST_PAGE : Tok
  c_MOST_PAGE : mg "MOST_PAGE" = some (.int 39 t_MOST_PAGE)
  n_all : mg "all" = none
  n_any : mg "any" = none
  n_bool : mg "bool" = none
  n_dict : mg "dict" = none
  n_enumerate : mg "enumerate" = none
  n_int : mg "int" = none
  n_isinstance : mg "isinstance" = none
  n_len : mg "len" = none
  n_list : mg "list" = none
  n_max : mg "max" = none
  n_range : mg "range" = none
  n_sorted : mg "sorted" = none
  n_tuple : mg "tuple" = none
  n_zip : mg "zip" = none
local macro_rules | `(tactic| walk_at "sx") => `(tactic| try simp only [x_callV, x_lcV, x_callKS, BC.x_gtupV, x_methF, x_methF2, x_methR, x_propF, SUX.x_sup1, x_sortSetB, x_lenSetA, x_mulS, x_callS, x_makeS, x_makeKS, x_seq, x_next, x_brk, x_cnt, x_nev, x_ret, x_retN, x_drop, x_ifS, x_asg, x_gn, x_gsub, x_par, x_par3, x_aug, x_for, x_lc, x_rng1, x_rng2, x_rng3, x_ilist, x_itup, x_ienum, x_izip, x_izipA, x_istr, x_var, x_c, x_op, x_un, x_test, x_b, x_chain, x_and, x_or, x_not, x_andV, x_orV, x_notV, x_ife, x_nil, x_cons, x_lst, x_tup, x_cb, x_call, x_callK, x_bm, x_bm0, x_tru, x_sl, x_nopart, x_part, x_revL, x_I0, x_I, x_U, x_ip, x_ipC, x_eqI, x_neI, x_eqB, x_neB, x_eqS, x_neS, x_isB, x_isNB, x_lrg, x_gall, x_lenSet, x_sortSet, x_rg1, x_rg2, x_dnewK, x_dnewT, x_dget, x_dget1, x_dget2, x_din, x_dnotin, x_dput, x_ikeys, x_fld, x_sfld, x_prop, x_meth, x_make, x_dc, x_callO, x_callOK,
  L2.start, List.map_cons, List.map_nil, List.length_cons, List.length_nil, Nat.reduceAdd, Nat.reduceSub, Nat.sub_self, Nat.zero_add, List.replicate, List.replicate_succ, List.replicate_zero, List.append_nil, List.cons_append, List.nil_append, List.set_cons_zero, List.set_cons_succ, List.getElem?_cons_zero, List.getElem?_cons_succ, Option.some.injEq, V.int.injEq, V.bl.injEq, V.ref.injEq, V.str.injEq, List.cons.injEq, and_true, true_and, exists_eq_left', exists_eq_left, exists_and_left, exists_eq, if_true, if_false, ite_true, ite_false, Bool.true_eq_false, Bool.false_eq_true, reduceIte, reduceCtorEq, Bool.not_true, Bool.not_false, decide_true, decide_false, decide_eq_true_eq, Bool.and_true, Bool.true_and, Bool.and_self, Bool.and_false, Bool.false_and, Bool.or_self, Bool.or_false, Bool.false_or, Bool.or_true, Bool.true_or, eq_self])
section
variable {P : Program} {w : World} {K : PySem.W.Frag} {mg : Str → Option Value} {base : Heap}
/-- a value with its type: a number, or what is none -/
inductive Kd (K : PySem.W.Frag) (H : Hp) : V → Prop
  | int (i : Int) : Kd K H (.int i)
  | bl (b : Bool) : Kd K H (.bl b)
  | odd {v : V} {t : Value} (h : TyX K H v t) (n : PySem.W.kitOne K t (.type "int") = some false) : Kd K H v
def inR (lo hi : Int) : V → Bool
  | .int i => decide (lo ≤ i) && decide (i ≤ hi)
  | _ => false
def spIsInt (K : PySem.W.Frag) : Sp := fun vs H Q _ => ∃ (v : V) (lo hi : Int), vs = [v, .int lo, .int hi] ∧ Kd K H v ∧ Q (.bl (inR lo hi v)) H
theorem ok_is_integer (T : Txt P K mg) : FnOk P w K mg base CX0 1 T.f_is_integer T.fd_is_integer ["value", "least", "most"] (spIsInt K) := by
  refine T.F_is_integer.ok sc_is_integer (fun vs H Q E h => ?_) (fun cdv A outer s H vs Q E hr h => ?_)
  · obtain ⟨v, lo, hi, rfl, _⟩ := h
    rfl
  · obtain ⟨v, lo, hi, rfl, kd, k⟩ := h
    apply Exists.intro
    apply And.intro
    · apply pss_one
      exact (ps_ret (pe_and (pe_callB (k_isi (K := K) rfl) (by rfl) T.n_isinstance (by decide +kernel) (pa_cons (pv 0) (pa_cons (pe_bltn (v := .ty "int") (by rfl) T.n_int (by decide +kernel) rfl) pa_nil))) (pe_and (pe_not (pe_callB (k_isi (K := K) rfl) (by rfl) T.n_isinstance (by decide +kernel) (pa_cons (pv 0) (pa_cons (pe_bltn (v := .ty "bool") (by rfl) T.n_bool (by decide +kernel) rfl) pa_nil)))) (pe_one (pe_chain op_le op_le (pv 1) (pv 0) (pv 2))))))
    walk_at "sx"
    cases kd with
    | int i =>
      refine isi_int (b := true) (by decide +kernel) ?_
      walk_at "sx"
      refine isi_int (b := false) (by decide +kernel) ?_
      have k' : Q (.bl (decide (lo ≤ i) && decide (i ≤ hi))) H := k
      walk_at "sx"
      by_cases h1 : lo ≤ i
      · simpa [h1] using k'
      · simpa [h1] using k'
    | bl b =>
      refine ⟨.bl b, .ty "int", .type "bool", .type "int", true, rfl, .ty "int", .base (.bl b), kit_ty (by decide +kernel), ?_⟩
      walk_at "sx"
      refine ⟨.bl b, .ty "bool", .type "bool", .type "bool", true, rfl, .ty "bool", .base (.bl b), kit_ty (by decide +kernel), ?_⟩
      walk_at "sx"
      exact k
    | odd ty n =>
      refine ⟨v, .ty "int", _, .type "int", false, rfl, .ty "int", ty, n, ?_⟩
      have e : inR lo hi v = false := by
        cases v with
        | int i =>
          cases ty with
          | base h => cases h; exact absurd n (by rw [kit_ty (r := true) (by decide +kernel)]; simp)
        | _ => rfl
      rw [e] at k
      walk_at "sx"
      exact k
def spIsPage (K : PySem.W.Frag) : Sp := fun vs H Q _ => ∃ v, vs = [v] ∧ Kd K H v ∧ Q (.bl (inR 0 39 v)) H
theorem ok_is_page (T : Txt P K mg) : FnOk P w K mg base CX0 2 T.f_is_page T.fd_is_page ["value"] (spIsPage K) := by
  refine T.F_is_page.ok sc_is_page (fun vs H Q E h => ?_) (fun cdv A outer s H vs Q E hr h => ?_)
  · obtain ⟨i, rfl, _⟩ := h
    rfl
  · obtain ⟨i, rfl, kd, k⟩ := h
    apply Exists.intro
    apply And.intro
    · apply pss_one
      exact (ps_ret (pe_call (ok_is_integer T) (hr.mono (by decide)) (by rfl) T.m_is_integer T.F_is_integer.kp T.b_is_integer .nil pass0 (pa_cons (pv 0) (pa_cons pe_int (pa_cons (pe_glob (v := .int 39) rfl T.c_MOST_PAGE ⟨_, rfl⟩) pa_nil)))))
    walk_at "sx"
    exact ⟨i, 0, 39, rfl, kd, k⟩
theorem Kd.of {K : PySem.W.Frag} {H : Hp} {v : V} {t : Value} (h : TyX K H v t) (n : PySem.W.kitOne K t (.type "int") = some false) : Kd K H v := .odd h n
theorem kd_non {K : PySem.W.Frag} {H : Hp} : Kd K H .non := .odd (.base .non) (kit_ty (by decide +kernel))
theorem kd_str {K : PySem.W.Frag} {H : Hp} (x : Str) : Kd K H (.str x) := .odd (.base (.str x)) (kit_ty (by decide +kernel))
theorem kd_lst {K : PySem.W.Frag} {H : Hp} {a : Addr} {xs : List V} (e : H a = some (.lst xs)) : Kd K H (.ref a) := .odd (.base (.lst e)) (kit_ty (by decide +kernel))
theorem kd_tup {K : PySem.W.Frag} {H : Hp} {a : Addr} {xs : List V} (e : H a = some (.tup xs)) : Kd K H (.ref a) := .odd (.base (.tup e)) (kit_ty (by decide +kernel))
theorem kd_dic {K : PySem.W.Frag} {H : Hp} {a : Addr} {xs : List (Key × V)} (e : H a = some (.dK xs)) : Kd K H (.ref a) := .odd (.base (.dK e)) (kit_ty (by decide +kernel))
end
end LW

set_option Elab.async false
set_option linter.all false
set_option maxRecDepth 100000
set_option maxHeartbeats 4000000
namespace LW
open PySem PySem.Spec PyProof.Rows L2 BC Evl TR EF L2.DX SUX
local macro_rules | `(tactic| walk_at "sx") => `(tactic| try simp only [x_callV, x_lcV, x_callKS, BC.x_gtupV, x_methF, x_methF2, x_methR, x_propF, SUX.x_sup1, x_sortSetB, x_lenSetA, x_mulS, x_callS, x_makeS, x_makeKS, x_seq, x_next, x_brk, x_cnt, x_nev, x_ret, x_retN, x_drop, x_ifS, x_asg, x_gn, x_gsub, x_par, x_par3, x_aug, x_for, x_lc, x_rng1, x_rng2, x_rng3, x_ilist, x_itup, x_ienum, x_izip, x_izipA, x_istr, x_var, x_c, x_op, x_un, x_test, x_b, x_chain, x_and, x_or, x_not, x_andV, x_orV, x_notV, x_ife, x_nil, x_cons, x_lst, x_tup, x_cb, x_call, x_callK, x_bm, x_bm0, x_tru, x_sl, x_nopart, x_part, x_revL, x_I0, x_I, x_U, x_ip, x_ipC, x_eqI, x_neI, x_eqB, x_neB, x_eqS, x_neS, x_isB, x_isNB, x_lrg, x_gall, x_lenSet, x_sortSet, x_rg1, x_rg2, x_dnewK, x_dnewT, x_dget, x_dget1, x_dget2, x_din, x_dnotin, x_dput, x_ikeys, x_fld, x_sfld, x_prop, x_meth, x_make, x_dc, x_callO, x_callOK,
  L2.start, List.map_cons, List.map_nil, List.length_cons, List.length_nil, Nat.reduceAdd, Nat.reduceSub, Nat.sub_self, Nat.zero_add, List.replicate, List.replicate_succ, List.replicate_zero, List.append_nil, List.cons_append, List.nil_append, List.set_cons_zero, List.set_cons_succ, List.getElem?_cons_zero, List.getElem?_cons_succ, Option.some.injEq, V.int.injEq, V.bl.injEq, V.ref.injEq, V.str.injEq, List.cons.injEq, and_true, true_and, exists_eq_left', exists_eq_left, exists_and_left, exists_eq, if_true, if_false, ite_true, ite_false, Bool.true_eq_false, Bool.false_eq_true, reduceIte, reduceCtorEq, Bool.not_true, Bool.not_false, decide_true, decide_false, decide_eq_true_eq, Bool.and_true, Bool.true_and, Bool.and_self, Bool.and_false, Bool.false_and, Bool.or_self, Bool.or_false, Bool.false_or, Bool.or_true, Bool.true_or, eq_self])
section
variable {P : Program} {w : World} {K : PySem.W.Frag} {mg : Str → Option Value} {base : Heap}
def spVisited (K : PySem.W.Frag) : Sp := fun vs H Q _ => ∃ (a : Addr) (t : List Int) (p : Int), vs = [.ref a, .int p] ∧ H a = some (.lst (t.map V.int)) ∧ t.length ≤ 1000 ∧ ∀ r H', H r = none → Ex H H' → H' r = some (.lst ((vis t p).map V.int)) → Q (.ref r) H'
theorem ok_visited (T : Txt P K mg) : FnOk P w K mg base CX0 1 T.f_visited T.fd_visited ["trail", "page"] (spVisited K) := by
  refine T.F_visited.ok sc_visited (fun vs H Q E h => ?_) (fun cdv A outer s H vs Q E hr h => ?_)
  · obtain ⟨a, t, p, rfl, _⟩ := h
    rfl
  · obtain ⟨a, t, p, rfl, hA, hl, k⟩ := h
    apply Exists.intro
    apply And.intro
    · apply pss_one
      exact (ps_ret (pe_ifExp (pt_cmpR (k_in (K := K) rfl) (pv 1) (pv 0) (by rfl)) (pe_slice (k_sl_list (K := K) rfl) (pv 0) po_none (po_some (pe_op op_add (k_bm (K := K) rfl (pe_bm PySem.F.plainAttrs_list PySem.F.slot_list_index PySem.F.type_list_index (k_index (K := K) rfl) (pv 0) (pa_cons (pv 1) pa_nil))) pe_int))) (pe_op op_cat (pv 0) (pe_lst (pa_cons (pv 1) pa_nil)))))
    walk_at "sx"
    refine inL (.inl (.inl hA)) ?_
    walk_at "sx"
    by_cases m : p ∈ t
    · have hi := List.idxOf_lt_length_of_mem m
      simp only [m]
      walk_at "sx"
      refine ⟨tyL hA, ?_⟩
      refine idxL (.inl (.inl hA)) m ?_
      walk_at "sx"
      refine slL (.inl (.inl hA)) fun r nr => ?_
      refine k r _ nr (Ex.new nr) ?_
      rw [upd_same, cut_to (j := t.idxOf p + 1) _ (by omega) (by rw [List.length_map]; omega)]
      unfold vis
      rw [if_pos m, List.map_take]
    · simp only [m]
      walk_at "sx"
      refine ⟨sz_ok (by omega), fun z nz => ?_⟩
      have e1 := Ex.new nz (o := .lst [V.int p])
      refine catL (e1 _ _ hA) upd_same (sz_ok (by rw [List.length_map, List.length_singleton]; omega)) fun r nr => ?_
      refine k r _ (fresh_back e1 nr) (e1.trans (Ex.new nr)) ?_
      rw [upd_same]
      unfold vis
      rw [if_neg m, List.map_append]
      rfl
def spIsTrail (K : PySem.W.Frag) : Sp := fun vs H Q _ => ∃ (a : Addr) (ns : List Int), vs = [.ref a] ∧ SqL K H a (ns.map V.int) ∧ ns.Nodup ∧ Pg 40 ns ∧ ∀ H', Ex H H' → Q (.bl true) H'
end
/-! ### exits.py -/
theorem kept_pairs {P : Int × Int → Bool} {g : Int × Int → Int} : ∀ (qs : List (Int × Int)), kept qs.length (fun i => P (qs.getD i (0, 0))) (fun i => V.int (g (qs.getD i (0, 0)))) = ((qs.filter P).map g).map V.int := fun qs => by
  have h : ∀ n, n ≤ qs.length → kept n (fun i => P (qs.getD i (0, 0))) (fun i => V.int (g (qs.getD i (0, 0)))) = (((qs.take n).filter P).map g).map V.int := fun n => by
    induction n with
    | zero => intro _; rfl
    | succ n ih =>
      intro hn
      have hq : qs[n]? = some (qs.getD n (0, 0)) := by rw [List.getD_eq_getElem?_getD, List.getElem?_eq_getElem (by omega)]; rfl
      rw [List.take_add_one, hq]
      cases c : P (qs.getD n (0, 0)) with
      | true =>
        rw [kept_yes (k := fun i => P (qs.getD i (0, 0))) c, ih (by omega), Option.toList_some, List.filter_append, List.filter_cons_of_pos c, List.filter_nil, List.map_append, List.map_append]
        rfl
      | false =>
        rw [kept_no (k := fun i => P (qs.getD i (0, 0))) c, ih (by omega), Option.toList_some, List.filter_append, List.filter_cons_of_neg (by rw [c]; exact Bool.false_ne_true), List.filter_nil, List.append_nil]
  rw [h _ (Nat.le_refl _), List.take_of_length_le (Nat.le_refl _)]
section
variable {P : Program} {w : World} {K : PySem.W.Frag} {mg : Str → Option Value} {base : Heap}
def firstV : List Int → V
  | [] => .non
  | a :: _ => .int a
/-- an effect stands at x -/
def EffAt (C : Addr) (H : Hp) (x : Addr) (v : V) (qs : List (Int × Int)) : Prop := ∃ dx t d ts, H x = some (.ins C dx [("begin_page", v), ("pairs", .ref t), ("exit_of", .ref d)]) ∧ H t = some (.tup ((ts : List Addr).map V.ref)) ∧ ts.length = qs.length ∧ (∀ i u, ts[i]? = some u → PairAt H u (qs.getD i (0, 0))) ∧ H d = some (.dK (qs.map itK))
theorem EffAt.ex {C : Addr} {H H' : Hp} {x : Addr} {v : V} {qs : List (Int × Int)} (h : EffAt C H x v qs) (e : Ex H H') : EffAt C H' x v qs := by
  obtain ⟨dx, t, d, ts, h1, h2, h3, h4, h5⟩ := h
  exact ⟨dx, t, d, ts, e _ _ h1, e _ _ h2, h3, fun i u hi => e _ _ (h4 i u hi), e _ _ h5⟩
def spExitsIn (K : PySem.W.Frag) : Sp := fun vs H Q _ => ∃ (a : Addr) (row : List Int), vs = [.ref a] ∧ SqL K H a (row.map V.int) ∧ row.length ≤ 6000 ∧ ∀ d H', H d = none → Ex H H' → H' d = some (.dK ((foldP [] row).map itK)) → Q (.ref d) H'
def JXi (H1 : Hp) (a d : Addr) (row : List Int) (i : Nat) (σ' : L2.St) (H' : Hp) : Prop := ∃ l2 l3 qs, σ' = [some (.ref a), some (.ref d), l2, l3] ∧ Fx d H1 H' ∧ H' d = some (.dK ((qs : List (Int × Int)).map itK)) ∧ foldP qs (row.drop i) = foldP [] row ∧ qs.length ≤ i
theorem ok_exits_in (T : Txt P K mg) : FnOk P w K mg base CX0 1 T.f_exits_in T.fd_exits_in ["visits"] (spExitsIn K) := by
  refine T.F_exits_in.ok sc_exits_in (fun vs H Q E h => ?_) (fun cdv A outer s H vs Q E hr h => ?_)
  · obtain ⟨a, row, rfl, _⟩ := h
    rfl
  · obtain ⟨a, row, rfl, hA, hl, k⟩ := h
    apply Exists.intro
    apply And.intro
    · apply pss_cons
      · exact (ps_set (i := 1) sc_exits_in.nd rfl (.inl rfl) pe_dnewK)
      apply pss_cons
      · apply ps_for PassesOwn.never rfl
        · exact (k_pi_zipA (K := K) rfl (by rfl) T.n_zip (pa_cons (pv 0) (pa_cons (pe_op op_cat (pe_slice (k_sl_list (K := K) rfl) (pv 0) (po_some pe_int) po_none) (pe_slice (k_sl_list (K := K) rfl) (pv 0) (po_some (pe_un un_neg pe_int)) po_none)) pa_nil)))
        · exact (k_tup (K := K) (n := 2) rfl rfl (pgs_cons (pg_name (i := 2) sc_exits_in.nd rfl (.inl rfl)) (pgs_cons (pg_name (i := 3) sc_exits_in.nd rfl (.inl rfl)) pgs_nil)))
        · apply pss_one
          exact (ps_dput (hu_of hr) (pv 1) (pv 2) (pv 3) rfl)
      apply pss_one
      exact (ps_ret (pv 1))
    walk_at "sx"
    refine fun d nd => ?_
    have e1 := Ex.new nd (o := .dK [])
    refine slL (ex_l e1 hA) fun c nc => ?_
    have e2 := Ex.new nc (o := .lst (cutV (row.map V.int) (some 1) none))
    refine slL (ex_l (e1.trans e2) hA) fun b nb => ?_
    have e3 := Ex.new nb (o := .lst (cutV (row.map V.int) (some (-1)) none))
    refine catL (e3 _ _ upd_same) upd_same (sz_ok (by have h1 := cutV_len (row.map V.int) (some 1) none; have h2 := cutV_len (row.map V.int) (some (-1)) none; rw [List.length_map] at h1 h2; omega)) fun z nz1 => ?_
    have e4 := Ex.new nz1 (o := .lst (cutV (row.map V.int) (some 1) none ++ cutV (row.map V.int) (some (-1)) none))
    have E := e2.trans (e3.trans e4)
    have hd0 := E _ _ (upd_same (H := H) (a := d) (o := .dK []))
    rw [cut_seconds] at E hd0 ⊢
    have hzz : (upd (upd (upd (upd H d (.dK [])) c (.lst (cutV (row.map V.int) (some 1) none))) b (.lst (cutV (row.map V.int) (some (-1)) none))) z (.lst ((seconds row).map V.int))) z = some (.lst ((seconds row).map V.int)) := upd_same
    have hA2 := ex_l (e1.trans E) hA
    generalize (upd (upd (upd (upd H d (.dK [])) c (.lst (cutV (row.map V.int) (some 1) none))) b (.lst (cutV (row.map V.int) (some (-1)) none))) z (.lst ((seconds row).map V.int))) = H1 at E hd0 hzz hA2 ⊢
    have nad : ∀ {f : Addr} {xs : List V}, SqL K H f xs → ∀ H', Fx d H1 H' → SqL K H' f xs := fun h H' fx => by
      rcases h with h | h
      · rcases h with h | ⟨o, h⟩
        · exact .inl (.inl (fx _ _ (ne_of_none h nd) (E _ _ (e1 _ _ h))))
        · exact .inl (.inr ⟨o, fx _ _ (ne_of_none h nd) (E _ _ (e1 _ _ h))⟩)
      · exact .inr h
    have nzd : z ≠ d := ne_of hzz hd0 (by intro z; cases z)
    refine ⟨_, _, ⟨rfl, rfl⟩, _, _, .inl ⟨hA2, .inl (.inl hzz), ?_⟩⟩
    refine lg_zip (xs := row.map V.int) (ys := (seconds row).map V.int) (by rw [List.length_map, List.length_map, seconds_len]) (JXi H1 a d row) ⟨none, none, [], rfl, Fx.refl _ _, hd0, rfl, Nat.le_refl _⟩ (fun i σ' H' hP => ?_) (fun i x y T σ' H' hx hy hP nT => ?_) (fun σ' H' hP => ?_)
    · obtain ⟨_, _, _, _, fx, _⟩ := hP
      exact ⟨nad hA _ fx, .inl (.inl (fx _ _ nzd hzz))⟩
    · obtain ⟨l2, l3, qs, rfl, fx, hd, hf, hq⟩ := hP
      obtain ⟨p, hp, rfl⟩ := ints_at hx
      obtain ⟨q, hq2, rfl⟩ := ints_at hy
      have hi := (List.getElem?_eq_some_iff.mp hp).1
      rw [seconds_at hi] at hq2
      have hpd : row.getD i 0 = p := by rw [List.getD_eq_getElem?_getD, hp]; rfl
      rw [hpd] at hq2
      have eT := Ex.new nT (o := .tup [V.int p, V.int q])
      refine g_two upd_same ?_
      walk_at "sx"
      refine ⟨_, DPut.k (k := Sum.inl p) (eT _ _ hd) (BC.sz_lt (by rw [List.length_map]; omega)), ?_⟩
      refine ⟨_, _, putI qs p q, rfl, (fx.trans (Fx.of eT)).trans Fx.put, by rw [upd_same, putI_put], ?_, Nat.le_trans (putI_len _ _ _) (by omega)⟩
      rw [← hf]
      have ed : row.drop i = p :: row.drop (i + 1) := by rw [List.drop_eq_getElem_cons hi]; congr 1; exact (List.getElem?_eq_some_iff.mp hp).2
      rw [ed]
      show _ = foldP (putI qs p ((row.drop (i + 1)).headD p)) (row.drop (i + 1))
      rw [Option.some.inj hq2]
    · obtain ⟨l2, l3, qs, rfl, fx, hd, hf, hq⟩ := hP
      walk_at "sx"
      rw [List.length_map, List.drop_eq_nil_of_le (Nat.le_refl _)] at hf
      have hf' : qs = foldP [] row := hf
      rw [hf'] at hd
      exact k d _ nd (((Fx.of (e1.trans E)).trans fx).ex nd) hd
/-- pairs of pages -/
def PgP (qs : List (Int × Int)) : Prop := ∀ q ∈ qs, (0 ≤ q.1 ∧ q.1 < 40) ∧ 0 ≤ q.2 ∧ q.2 < 40
def spIsPair (K : PySem.W.Frag) : Sp := fun vs H Q _ => ∃ (t : Addr) (q : Int × Int), vs = [.ref t] ∧ PairAt H t q ∧ (0 ≤ q.1 ∧ q.1 < 40) ∧ (0 ≤ q.2 ∧ q.2 < 40) ∧ ∀ H', Ex H H' → Q (.bl true) H'
theorem ok_is_pair (T : Txt P K mg) : FnOk P w K mg base CX0 3 T.f_is_pair T.fd_is_pair ["value"] (spIsPair K) := by
  refine T.F_is_pair.ok sc_is_pair (fun vs H Q E h => ?_) (fun cdv A outer s H vs Q E hr h => ?_)
  · obtain ⟨t, q, rfl, _⟩ := h
    rfl
  · obtain ⟨t, q, rfl, hT, h1, h2, k⟩ := h
    apply Exists.intro
    apply And.intro
    · apply pss_one
      exact (ps_ret (pe_and (pe_callB (k_isi (K := K) rfl) (by rfl) T.n_isinstance (by decide +kernel) (pa_cons (pv 0) (pa_cons (pe_bltn (v := .ty "tuple") (by rfl) T.n_tuple (by decide +kernel) rfl) pa_nil))) (pe_and (pe_cmpR op_eq (pe_callB (k_len (K := K) rfl) (by rfl) T.n_len PySem.boot_len (pa_cons (pv 0) pa_nil)) pe_int (by rfl)) (pe_and (pe_call (ok_is_page T) (hr.mono (by decide)) (by rfl) T.ma_is_page_trails T.F_is_page.kp T.b_is_page .nil pass0 (pa_cons (pe_ix (k_ix_tup (K := K) rfl) (pv 0) pe_int (fun _ _ => rfl)) pa_nil)) (pe_one (pe_call (ok_is_page T) (hr.mono (by decide)) (by rfl) T.ma_is_page_trails T.F_is_page.kp T.b_is_page .nil pass0 (pa_cons (pe_ix (k_ix_tup (K := K) rfl) (pv 0) pe_int (fun _ _ => rfl)) pa_nil)))))))
    have hT' : H t = some (.tup [.int q.1, .int q.2]) := hT
    walk_at "sx"
    refine isi_x (b := true) (tyx_t (.inl (.inl hT'))) (by decide +kernel) ?_
    walk_at "sx"
    refine lenT (.inl (.inl hT')) ?_
    walk_at "sx"
    refine ⟨t, _, _, _, rfl, rfl, .inl (.inl hT'), atI_n (j := 0) rfl rfl, ?_⟩
    refine ⟨.int q.1, rfl, .int q.1, ?_⟩
    simp only [inR]
    have z1 : (0 : Int) ≤ q.1 := h1.1
    have z2 : q.1 ≤ 39 := by omega
    rw [decide_eq_true z1, decide_eq_true z2]
    walk_at "sx"
    refine ⟨t, _, _, _, rfl, rfl, .inl (.inl hT'), atI_n (j := 1) rfl rfl, ?_⟩
    refine ⟨.int q.2, rfl, .int q.2, ?_⟩
    simp only [inR]
    have z3 : (0 : Int) ≤ q.2 := h2.1
    have z4 : q.2 ≤ 39 := by omega
    rw [decide_eq_true z3, decide_eq_true z4]
    exact k _ (Ex.refl _)
def spLead : Sp := fun vs H Q _ => ∃ (d : Addr) (p r : Int) (qs : List (Int × Int)) (f : Int → Int) (S : Int → Prop), vs = [.ref d, .int p, .int r] ∧ H d = some (.dK (qs.map itK)) ∧ qs.length ≤ 1000 ∧ S p ∧ (∀ x, S x → getI qs x = some (f x) ∧ S (f x)) ∧ ∀ H', Ex H H' → Q (.bl (lead f r qs.length p)) H'
def JLd (H : Hp) (d : Addr) (p r : Int) (n : Nat) (f : Int → Int) (S : Int → Prop) (i : Nat) (σ' : L2.St) (H' : Hp) : Prop := ∃ p' l3, σ' = [some (.ref d), some (.int p'), some (.int r), l3] ∧ H' = H ∧ S p' ∧ lead f r n p = lead f r (n - i) p'
theorem ok_leads_to_root (T : Txt P K mg) : FnOk P w K mg base CX0 3 T.f_leads_to_root T.fd_leads_to_root ["exit_of", "page", "root"] spLead := by
  refine T.F_leads_to_root.ok sc_leads_to_root (fun vs H Q E h => ?_) (fun cdv A outer s H vs Q E hr h => ?_)
  · obtain ⟨d, p, r, qs, f, S, rfl, _⟩ := h
    rfl
  · obtain ⟨d, p, r, qs, f, S, rfl, hd, hl, hp, hS, k⟩ := h
    apply Exists.intro
    apply And.intro
    · apply pss_cons
      · apply ps_for PassesOwn.never rfl
        · exact (pi_range1 (by rfl) T.n_range (pa_cons (pe_callB call_lenD (by rfl) T.n_len PySem.boot_len (pa_cons (pv 0) pa_nil)) pa_nil))
        · exact (pg_name (i := 3) sc_leads_to_root.nd rfl (.inl rfl))
        · apply pss_cons
          · apply ps_if
            · exact (pt_cmpR op_eq (pv 1) (pv 2) (by rfl))
            · apply pss_one
              exact (ps_ret pe_bl)
            · exact pss_nil
          apply pss_one
          exact (ps_set (i := 1) sc_leads_to_root.nd rfl (.inl rfl) (pe_dget (hu_of hr) (pv 0) (pv 1) (fun _ _ => rfl)))
      apply pss_one
      exact (ps_ret pe_bl)
    walk_at "sx"
    refine ⟨_, hd, ?_⟩
    rw [List.length_map]
    refine ⟨by omega, by omega, ?_⟩
    rw [Int.toNat_natCast]
    refine lg_rng (JLd H d p r qs.length f S) ⟨p, none, rfl, rfl, hp, rfl⟩ (fun i σ' H' hi hP => ?_) (fun σ' H' hP => ?_)
    · obtain ⟨p', l3, rfl, rfl, hp', hf⟩ := hP
      walk_at "sx"
      obtain ⟨m, hm⟩ : ∃ m, qs.length - i = m + 1 := ⟨qs.length - i - 1, by omega⟩
      rw [hm] at hf
      have hf2 : lead f r qs.length p = (if p' = r then true else lead f r m (f p')) := hf
      by_cases c : p' = r
      · rw [if_pos c] at hf2 ⊢
        have := k _ (Ex.refl _)
        rw [hf2] at this
        exact this
      · rw [if_neg c] at hf2 ⊢
        obtain ⟨g, s⟩ := hS p' hp'
        refine ⟨_, .inl ⟨_, Sum.inl p', .inl hd, rfl, by rw [getI_val, g]; rfl⟩, ?_⟩
        refine ⟨_, _, rfl, rfl, s, ?_⟩
        rw [hf2, show qs.length - (i + 1) = m by omega]
    · obtain ⟨p', l3, rfl, rfl, hp', hf⟩ := hP
      walk_at "sx"
      have := k _ (Ex.refl _)
      rw [hf, Nat.sub_self] at this
      exact this
end
theorem ints_pgp {row : List Int} (hp : Pg 40 row) : PgP (exs row) := fun q hq => by
  obtain ⟨x, y⟩ := q
  obtain ⟨h1, h2⟩ := mem_nx ((mem_exs hp).mp hq)
  exact ⟨hp x h1, hp y h2⟩
def dPair (q : Int × Int) : PyData := .tuple [.int q.1, .int q.2]
def dPairs (qs : List (Int × Int)) : PyData := .list (qs.map dPair)
section
variable {P : Program} {w : World} {K : PySem.W.Frag} {mg : Str → Option Value} {base : Heap}
theorem dp_pairs {H : Hp} : ∀ {ts : List Addr} {qs : List (Int × Int)}, ts.length = qs.length → (∀ (i : Nat) t, ts[i]? = some t → PairAt H t (qs.getD i (0, 0))) → DpAll K H (ts.map V.ref) (qs.map dPair)
  | [], [], _, _ => .nil
  | [], _ :: _, h, _ => by simp at h
  | _ :: _, [], h, _ => by simp at h
  | t :: ts, q :: qs, h, hp => .cons (.tup (.inl (.inl (hp 0 t rfl))) (.cons (.int _) (.cons (.int _) .nil))) (dp_pairs (by simpa using h) fun i u hi => by
    have := hp (i + 1) u (by simpa using hi)
    simpa using this)
theorem pairs_dp {H : Hp} {a : Addr} {ts : List Addr} {qs : List (Int × Int)} (h : PairsAt K H a ts qs) : Dp K H (.ref a) (dPairs qs) := .lst h.1 (dp_pairs h.2.1 h.2.2)
theorem shp_pairs (qs : List (Int × Int)) : SeqAt.shaped (dPairs qs) = true := by
  have h1 : ∀ qs : List (Int × Int), PyData.canLayAll0 (qs.map dPair) = true := fun qs => by
    induction qs with
    | nil => simp [PyData.canLayAll0]
    | cons n ns ih => simp [PyData.canLayAll0, PyData.canLay0, dPair, ih]
  have h2 := dep_all (ds := qs.map dPair) (n := 1) fun d m => by
      obtain ⟨n, hn, rfl⟩ := List.mem_map.mp m
      simp [PyData.depth, PyData.depthAll, dPair]
  show (PyData.canLay0 _ && decide (PyData.depth _ ≤ 64)) = true
  rw [Bool.and_eq_true]
  refine ⟨?_, decide_eq_true ?_⟩
  · unfold dPairs; simp only [PyData.canLay0]; exact h1 qs
  · unfold dPairs; simp only [PyData.depth]; omega
theorem eqPairsNil {H : Hp} {Q : VK} {a b : Addr} {ts : List Addr} {qs : List (Int × Int)} (h : PairsAt K H a ts qs) (hb : H b = some (.lst [])) (q : Q (.bl (decide (qs = []))) H) : rEqD K (.ref a) (.ref b) H Q := by
  refine ⟨_, .list [], pairs_dp h, .lst (.inl (.inl hb)) .nil, shp_pairs qs, rfl, ?_⟩
  have e : PyData.eqv (dPairs qs) (.list []) = decide (qs = []) := by
    cases qs with
    | nil => rfl
    | cons q qs => simp [dPairs, PyData.eqv, PyData.eqvAll]
  rw [e]
  exact q
theorem pr_ev {H : Hp} {t : Addr} {q : Int × Int} (h : PairAt H t q) : H t = some (.tup [V.int q.1, V.int q.2]) := h
def spAreExits (K : PySem.W.Frag) : Sp := fun vs H Q _ => ∃ (a : Addr) (ts : List Addr) (row : List Int), vs = [.ref a] ∧ PairsAt K H a ts (exs row) ∧ Pg 40 row ∧ row ≠ [] ∧ ∀ H', Ex H H' → Q (.bl true) H'
theorem ok_are_exits (T : Txt P K mg) : FnOk P w K mg base CX0 4 T.f_are_exits T.fd_are_exits ["value"] (spAreExits K) := by
  refine T.F_are_exits.ok sc_are_exits (fun vs H Q E h => ?_) (fun cdv A outer s H vs Q E hr h => ?_)
  · obtain ⟨a, ts, row, rfl, _⟩ := h
    rfl
  · obtain ⟨a, ts, row, rfl, hA, hp, hne, k⟩ := h
    apply Exists.intro
    apply And.intro
    · apply pss_cons
      · apply ps_if
        · exact (PW.pt (pw_or (pt_not (pt_val (pe_callB (k_isi (K := K) rfl) (by rfl) T.n_isinstance (by decide +kernel) (pa_cons (pv 0) (pa_cons (pe_bltn (v := .ty "list") (by rfl) T.n_list (by decide +kernel) rfl) pa_nil))))) (pw_or (pt_cmpR (k_eqD (K := K) rfl hr.units) (pv 0) (pe_lst pa_nil) (by rfl)) (pw_or1 (pt_not (pt_val (pe_callB (k_all (K := K) rfl rfl) (by rfl) T.n_all (by decide +kernel) (pa_cons (pe_lc (own := [("pair", 6)]) rfl sc_are_exits.nd (k_pi_list (K := K) rfl (pv 0)) (blkOk_by (own := [("pair", 6)]) (N := ["value", "pages", "roots", "exit_of", "page", "later", "pair", "other"]) (sc := defScope s_are_exits) (by decide +kernel)) (fun _ _ _ _ _ => by exact (pg_name (i := 6) sc_are_exits.nd rfl (.inl rfl))) (fun _ _ _ _ _ => by exact pts_nil) (fun _ _ _ _ _ => by exact (pe_call (ok_is_pair T) (hr.mono (by decide)) (by rfl) T.m_is_pair T.F_is_pair.kp T.b_is_pair .nil pass0 (pa_cons (pv 6) pa_nil)))) pa_nil))))))))
        · apply pss_one
          exact (ps_ret pe_bl)
        · exact pss_nil
      apply pss_cons
      · exact (ps_setLc (i := 1) (own := [("page", 4), ("later", 5)]) rfl sc_are_exits.nd rfl rfl (sw_true rfl rfl rfl (by decide +kernel)) (k_pi_list (K := K) rfl (pv 0)) (blkOk_by (own := [("page", 4), ("later", 5)]) (N := ["value", "pages", "roots", "exit_of", "page", "later", "pair", "other"]) (sc := defScope s_are_exits) (by decide +kernel)) (fun _ _ _ _ _ => by exact (k_tup (K := K) (n := 2) rfl rfl (pgs_cons (pg_name (i := 4) sc_are_exits.nd rfl (.inl rfl)) (pgs_cons (pg_name (i := 5) sc_are_exits.nd rfl (.inl rfl)) pgs_nil)))) (fun _ _ _ _ _ => by exact pts_nil) (fun _ _ _ _ _ => by exact (pv 4)))
      apply pss_cons
      · exact (ps_set (i := 2) sc_are_exits.nd rfl (.inr rfl) (pe_lc (own := [("page", 4), ("later", 5)]) rfl sc_are_exits.nd (k_pi_list (K := K) rfl (pv 0)) (blkOk_by (own := [("page", 4), ("later", 5)]) (N := ["value", "pages", "roots", "exit_of", "page", "later", "pair", "other"]) (sc := defScope s_are_exits) (by decide +kernel)) (fun _ _ _ _ _ => by exact (k_tup (K := K) (n := 2) rfl rfl (pgs_cons (pg_name (i := 4) sc_are_exits.nd rfl (.inl rfl)) (pgs_cons (pg_name (i := 5) sc_are_exits.nd rfl (.inl rfl)) pgs_nil)))) (fun _ _ _ _ _ => by exact (pts_one (pt_cmpR op_eq (pv 4) (pv 5) (by rfl)))) (fun _ _ _ _ _ => by exact (pv 4))))
      apply pss_cons
      · apply ps_if
        · exact (PW.pt (pw_or (pt_cmpR op_ne (pe_callB (k_len (K := K) rfl) (by rfl) T.n_len PySem.boot_len (pa_cons (pv 2) pa_nil)) pe_int (by rfl)) (pw_or1 (pt_val (pe_callB (k_any (K := K) rfl rfl) (by rfl) T.n_any (by decide +kernel) (pa_cons (pe_lc (own := [("page", 4), ("other", 7)]) rfl sc_are_exits.nd (k_pi_zipA (K := K) rfl (by rfl) T.n_zip (pa_cons (pv 1) (pa_cons (pe_slice (k_sl_list (K := K) rfl) (pv 1) (po_some pe_int) po_none) pa_nil))) (blkOk_by (own := [("page", 4), ("other", 7)]) (N := ["value", "pages", "roots", "exit_of", "page", "later", "pair", "other"]) (sc := defScope s_are_exits) (by decide +kernel)) (fun _ _ _ _ _ => by exact (k_tup (K := K) (n := 2) rfl rfl (pgs_cons (pg_name (i := 4) sc_are_exits.nd rfl (.inl rfl)) (pgs_cons (pg_name (i := 7) sc_are_exits.nd rfl (.inl rfl)) pgs_nil)))) (fun _ _ _ _ _ => by exact pts_nil) (fun _ _ _ _ _ => by exact (pe_cmpR op_ge (pv 4) (pv 7) (by rfl)))) pa_nil))))))
        · apply pss_one
          exact (ps_ret pe_bl)
        · exact pss_nil
      apply pss_cons
      · exact (ps_set (i := 3) sc_are_exits.nd rfl (.inr rfl) (pe_callTy (k_dictP (K := K) rfl rfl) (by rfl) T.n_dict (by decide +kernel) (pa_cons (pv 0) pa_nil)))
      apply pss_cons
      · apply ps_if
        · exact (pt_not (pt_val (pe_callB (k_all (K := K) rfl rfl) (by rfl) T.n_all (by decide +kernel) (pa_cons (pe_lc (own := [("page", 4), ("later", 5)]) rfl sc_are_exits.nd (k_pi_list (K := K) rfl (pv 0)) (blkOk_by (own := [("page", 4), ("later", 5)]) (N := ["value", "pages", "roots", "exit_of", "page", "later", "pair", "other"]) (sc := defScope s_are_exits) (by decide +kernel)) (fun _ _ _ _ _ => by exact (k_tup (K := K) (n := 2) rfl rfl (pgs_cons (pg_name (i := 4) sc_are_exits.nd rfl (.inl rfl)) (pgs_cons (pg_name (i := 5) sc_are_exits.nd rfl (.inl rfl)) pgs_nil)))) (fun _ _ _ _ _ => by exact pts_nil) (fun _ _ _ _ _ => by exact (pe_cmp (pc_din (hu_of hr) (pv 5) (pv 3)) rfl))) pa_nil))))
        · apply pss_one
          exact (ps_ret pe_bl)
        · exact pss_nil
      apply pss_one
      exact (ps_ret (pe_callB (k_all (K := K) rfl rfl) (by rfl) T.n_all (by decide +kernel) (pa_cons (pe_lc (own := [("page", 4)]) rfl sc_are_exits.nd (k_pi_list (K := K) rfl (pv 1)) (blkOk_by (own := [("page", 4)]) (N := ["value", "pages", "roots", "exit_of", "page", "later", "pair", "other"]) (sc := defScope s_are_exits) (by decide +kernel)) (fun _ _ _ _ _ => by exact (pg_name (i := 4) sc_are_exits.nd rfl (.inl rfl))) (fun _ _ _ _ _ => by exact pts_nil) (fun _ _ _ _ _ => by exact (pe_call (ok_leads_to_root T) (hr.mono (by decide)) (by rfl) T.m_leads_to_root T.F_leads_to_root.kp T.b_leads_to_root .nil pass0 (pa_cons (pv 3) (pa_cons (pv 4) (pa_cons (pe_ix (k_ix_list (K := K) rfl) (pv 2) pe_int (fun _ _ => rfl)) pa_nil)))))) pa_nil)))
    have hl40 := exs_len40 row
    have ltq := hA.2.1
    have nex : exs row ≠ [] := fun e => by
      have := (mem_exs hp).mpr (nx_lst hne)
      rw [e] at this
      exact List.not_mem_nil this
    have hpgp := ints_pgp hp
    have hget : ∀ i, i < (exs row).length → (exs row)[i]? = some ((exs row).getD i (0, 0)) := fun i hi => by rw [List.getD_eq_getElem?_getD, List.getElem?_eq_getElem hi]; rfl
    refine seq_cut (fun σ' H' => σ' = [some (.ref a), none, none, none, none, none, none, none] ∧ Ex H H') (fun N hN => ?_) (fun σ1 H1 hC => ?_)
    · walk_at "sx"
      refine isi_x (b := true) (tyx_l hA.1) (by decide +kernel) ?_
      walk_at "sx"
      refine ⟨sz_ok (by omega), fun z nz1 => ?_⟩
      have ez := Ex.new nz1 (o := .lst [])
      refine eqPairsNil (hA.ex ez) upd_same ?_
      rw [decide_eq_false nex]
      walk_at "sx"
      have hA1 := hA.ex ez
      refine ⟨⟨_, hA1.1⟩, fun D nD => ?_⟩
      refine lc_list (xs := ts.map V.ref) (fun _ => true) (fun _ => V.bl true) hA1.1 nD (by rw [List.length_map]; omega) (fun u => rfl) (fun i x _ => tyes) (fun i x hx _ => ?_) (fun H2 e2 hD => ?_)
      · obtain ⟨t, ht, rfl⟩ := refs_at hx
        have hi := (List.getElem?_eq_some_iff.mp ht).1
        have hq := hpgp _ (List.mem_of_getElem? (hget i (by omega)))
        refine ev_call (vs := [.ref t]) (ea_cons (ev_var rfl) ea_nil) (fun H3 e3 Q3 q3 E3 => ⟨t, (exs row).getD i (0, 0), rfl, e3 _ _ (hA1.2.2 i t ht), hq.1, hq.2, fun H' e' => q3 H' e'⟩)
      · rw [kept_const] at hD
        have e5 : List.replicate (ts.map V.ref).length (V.bl true) = (List.replicate ts.length true).map V.bl := by rw [List.map_replicate, List.length_map]
        rw [e5] at hD
        refine allL (.inl (.inl hD)) ?_
        rw [all_true]
        walk_at "sx"
        exact hN _ _ ⟨rfl, ez.trans e2⟩
    obtain ⟨rfl, e1⟩ := hC
    have hA1 := hA.ex e1
    refine seq_cut (fun σ' H' => ∃ b, σ' = [some (.ref a), some (.ref b), none, none, none, none, none, none] ∧ Ex H1 H' ∧ H' b = some (.lst (((exs row).map (·.1)).map V.int))) (fun N hN => ?_) (fun σ2 H2 hC => ?_)
    · walk_at "sx"
      refine ⟨⟨_, hA1.1⟩, fun D nD => ?_⟩
      refine lc_pairs (ts := ts) (u := fun i => .int ((exs row).getD i (0, 0)).1) (v := fun i => .int ((exs row).getD i (0, 0)).2) (.inl ⟨rfl, hA1.1⟩) (fun i t ht => hA1.2.2 i t ht) (fun _ => true) (fun i => V.int ((exs row).getD i (0, 0)).1) nD (by omega) (fun u v => rfl) (fun i hi => tyes) (fun i hi _ => ev_var rfl) (fun H2 e2 hD => ?_)
      rw [ltq, kept_pairs (P := fun _ => true) (g := fun q => q.1), List.filter_eq_self.mpr (fun _ _ => rfl)] at hD
      exact hN _ _ ⟨D, rfl, e2, hD⟩
    obtain ⟨b, rfl, e2, hb⟩ := hC
    have hA2 := hA1.ex e2
    refine seq_cut (fun σ' H' => ∃ c, σ' = [some (.ref a), some (.ref b), some (.ref c), none, none, none, none, none] ∧ Ex H2 H' ∧ H' c = some (.lst ([lst row].map V.int))) (fun N hN => ?_) (fun σ3 H3 hC => ?_)
    · walk_at "sx"
      refine ⟨⟨_, hA2.1⟩, fun D nD => ?_⟩
      refine lc_pairs (ts := ts) (u := fun i => .int ((exs row).getD i (0, 0)).1) (v := fun i => .int ((exs row).getD i (0, 0)).2) (.inl ⟨rfl, hA2.1⟩) (fun i t ht => hA2.2.2 i t ht) (fun i => decide (((exs row).getD i (0, 0)).1 = ((exs row).getD i (0, 0)).2)) (fun i => V.int ((exs row).getD i (0, 0)).1) nD (by omega) (fun u v => rfl) (fun i hi => ?_) (fun i hi _ => ev_var rfl) (fun H2 e2 hD => ?_)
      · refine et_is (et_test (ev_op (ev_var rfl) (ev_var rfl) (rv_eq rfl))) ?_
        exact decide_eq_decide.mpr ⟨fun e => V.int.inj e, fun e => congrArg V.int e⟩
      · rw [ltq, kept_pairs (P := fun q => decide (q.1 = q.2)) (g := fun q => q.1)] at hD
        have hr := roots_exs hp hne
        unfold rootsOf at hr
        rw [hr] at hD
        exact hN _ _ ⟨D, rfl, e2, hD⟩
    obtain ⟨c, rfl, e3, hc⟩ := hC
    have hb3 := e3 _ _ hb
    refine seq_cut (fun σ' H' => σ' = [some (.ref a), some (.ref b), some (.ref c), none, none, none, none, none] ∧ Ex H3 H') (fun N hN => ?_) (fun σ4 H4 hC => ?_)
    · walk_at "sx"
      refine lenL (.inl (.inl hc)) ?_
      have z11 : (([lst row].map V.int).length : Int) = 1 := rfl
      rw [z11]
      walk_at "sx"
      refine slL (.inl (.inl hb3)) fun z nz1 => ?_
      have hcd : cutV (((exs row).map (·.1)).map V.int) (some 1) none = (((exs row).map (·.1)).drop 1).map V.int := cut_drop1 _
      rw [hcd]
      have ez := Ex.new nz1 (o := .lst ((((exs row).map (·.1)).drop 1).map V.int))
      refine ⟨_, _, ⟨rfl, rfl⟩, _, _, .inl ⟨.inl (.inl (ez _ _ hb3)), .inl (.inl upd_same), fun D nD => ?_⟩⟩
      refine lc_zipS (xs := ((exs row).map (·.1)).map V.int) (ys := (((exs row).map (·.1)).drop 1).map V.int) (fun _ => true) (fun _ => V.bl false) (.inl (.inl (ez _ _ hb3))) (.inl (.inl upd_same)) (by rw [List.length_map, List.length_map, List.length_drop]; omega) nD (by rw [List.length_map, List.length_drop, List.length_map]; omega) (fun u v => rfl) (fun i x y _ _ => tyes) (fun i x y hx hy _ => ?_) (fun H2 e2 hD => ?_)
      · obtain ⟨p, hp1, rfl⟩ := ints_at hx
        obtain ⟨q, hq1, rfl⟩ := ints_at hy
        rw [List.getElem?_drop, Nat.add_comm 1 i] at hq1
        refine ev_is (ev_op (ev_var rfl) (ev_var rfl) rv_I0) ?_
        have hpq : p < q := by
          have hs := exs_srt row
          rw [List.getElem?_map] at hp1 hq1
          cases c1 : (exs row)[i]? with
          | none => rw [c1] at hp1; cases hp1
          | some g1 =>
            cases c2 : (exs row)[i + 1]? with
            | none => rw [c2] at hq1; cases hq1
            | some g2 =>
              rw [c1] at hp1
              rw [c2] at hq1
              obtain ⟨l1, e1'⟩ := List.getElem?_eq_some_iff.mp c1
              obtain ⟨l2, e2'⟩ := List.getElem?_eq_some_iff.mp c2
              have := List.pairwise_iff_getElem.mp hs i (i + 1) l1 l2 (by omega)
              rw [e1', e2'] at this
              rw [← Option.some.inj hp1, ← Option.some.inj hq1]
              exact this
        show V.bl (decide (p ≥ q)) = V.bl false
        rw [decide_eq_false (by omega)]
      · rw [kept_const] at hD
        have e5 : List.replicate ((((exs row).map (·.1)).drop 1).map V.int).length (V.bl false) = (List.replicate (((exs row).map (·.1)).drop 1).length false).map V.bl := by rw [List.map_replicate, List.length_map]
        rw [e5] at hD
        refine anyL (.inl (.inl hD)) ?_
        have hf : ∀ n, (List.replicate n false).any id = false := fun n => by
          induction n with
          | zero => rfl
          | succ n ih => rw [List.replicate_succ, List.any_cons, ih]; rfl
        rw [hf]
        walk_at "sx"
        exact hN _ _ ⟨rfl, ez.trans e2⟩
    obtain ⟨rfl, e4⟩ := hC
    have hA4 := (hA2.ex e3).ex e4
    have hb4 := e4 _ _ hb3
    have hc4 := e4 _ _ hc
    have ndk : ((exs row).map (·.1)).Nodup := srt_nodup (exs_srt row)
    walk_at "sx"
    refine ⟨a, ts, exs row, rfl, hA4, ndk, fun d nd => ?_⟩
    walk_at "sx"
    have e5 := Ex.new nd (o := .dK ((exs row).map itK))
    have hA5 := hA4.ex e5
    generalize hH5 : upd H4 d (.dK ((exs row).map itK)) = H5 at e5 hA5
    have hd5 : H5 d = some (.dK ((exs row).map itK)) := by rw [← hH5]; exact upd_same
    have gI : ∀ x y, nx row x = some y → getI (exs row) x = some y := fun x y h => (getI_mem ndk).mp ((mem_exs hp).mpr h)
    refine ⟨⟨_, hA5.1⟩, fun D nD => ?_⟩
    refine lc_pairs (ts := ts) (u := fun i => .int ((exs row).getD i (0, 0)).1) (v := fun i => .int ((exs row).getD i (0, 0)).2) (.inl ⟨rfl, hA5.1⟩) (fun i t ht => hA5.2.2 i t ht) (fun _ => true) (fun i => V.bl true) nD (by omega) (fun u v => rfl) (fun i hi => tyes) (fun i hi _ => ?_) (fun H6 e6 hD => ?_)
    · have hm := List.mem_of_getElem? (hget i (by omega))
      obtain ⟨x, y, hxy⟩ : ∃ x y, (exs row).getD i (0, 0) = (x, y) := ⟨_, _, rfl⟩
      rw [hxy] at hm ⊢
      have hy := (mem_nx ((mem_exs hp).mp hm)).2
      obtain ⟨z, hz⟩ := nx_mem hy
      refine ev_is (ev_din (k := Sum.inl y) (ev_var rfl) (ev_var rfl) hd5) ?_
      rw [getI_val, gI y z hz]
      rfl
    · rw [kept_const] at hD
      have e7 : List.replicate ts.length (V.bl true) = (List.replicate ts.length true).map V.bl := by rw [List.map_replicate]
      rw [e7] at hD
      refine allL (.inl (.inl hD)) ?_
      rw [all_true]
      walk_at "sx"
      have hb6 := e6 _ _ (e5 _ _ hb4)
      have hc6 := e6 _ _ (e5 _ _ hc4)
      have hd6 := e6 _ _ hd5
      refine ⟨⟨_, .inl (.inl hb6)⟩, fun D2 nD2 => ?_⟩
      refine lc_list (xs := ((exs row).map (·.1)).map V.int) (fun _ => true) (fun _ => V.bl true) (.inl (.inl hb6)) nD2 (by rw [List.length_map, List.length_map]; omega) (fun u => rfl) (fun i x _ => tyes) (fun i x hx _ => ?_) (fun H7 e8 hD2 => ?_)
      · obtain ⟨p, hp1, rfl⟩ := ints_at hx
        have pr : p ∈ row := by
          obtain ⟨⟨x, y⟩, hq, rfl⟩ := List.mem_map.mp (List.mem_of_getElem? hp1)
          exact (mem_nx ((mem_exs hp).mp hq)).1
        refine ev_call (vs := [.ref d, .int p, .int (lst row)]) (ea_cons (ev_var rfl) (ea_cons (ev_var rfl) (ea_cons (ev_op (ev_var rfl) ev_c (rv_ixL (.inl (.inl hc6)) (atI_n (j := 0) rfl rfl))) ea_nil))) (fun H3 e3 Q3 q3 E3 => ?_)
        refine ⟨d, p, lst row, exs row, nxt row, fun x => x ∈ row, rfl, e3 _ _ hd6, by omega, pr, fun x hx => ?_, fun H' e' => ?_⟩
        · obtain ⟨y, hy⟩ := nx_mem hx
          rw [nxt_at hy]
          exact ⟨gI x y hy, (mem_nx hy).2⟩
        · rw [lead_ok (exs row).length pr (by rw [exs_len hp]; omega)]
          exact q3 H' e'
      · rw [kept_const] at hD2
        have e9 : List.replicate (((exs row).map (·.1)).map V.int).length (V.bl true) = (List.replicate ((exs row).map (·.1)).length true).map V.bl := by rw [List.map_replicate, List.length_map]
        rw [e9] at hD2
        refine allL (.inl (.inl hD2)) ?_
        rw [all_true]
        exact k _ (e1.trans (e2.trans (e3.trans (e4.trans (e5.trans (e6.trans e8))))))
/-! ### class Effect -/
/-- a first page for these visits' exits -/
def Begin (row : List Int) (v : V) : Prop := (row = [] ∧ v = .non) ∨ ∃ p, p ∈ row ∧ v = .int p
theorem begin_first (row : List Int) : Begin row (firstV row) := by
  cases row with
  | nil => exact .inl ⟨rfl, rfl⟩
  | cons a r => exact .inr ⟨a, List.mem_cons_self, rfl⟩
def spInit (C : Addr) (K : PySem.W.Frag) : Sp := fun vs H Q _ => ∃ (x dx a : Addr) (ts : List Addr) (row : List Int) (v : V), vs = [.ref x, v, .ref a] ∧ Begin row v ∧ H x = some (.ins C dx []) ∧ PairsAt K H a ts (exs row) ∧ Pg 40 row ∧ ∀ H', (∀ b o, H b = some o → b ≠ x → H' b = some o) → EffAt C H' x v (exs row) → Q .non H'
theorem flds_all (v : V) (t d : Addr) : putF "exit_of" (V.ref d) (putF "pairs" (V.ref t) (putF "begin_page" v [])) = ([("begin_page", v), ("pairs", V.ref t), ("exit_of", V.ref d)] : List (Str × V)) := by
  have k1 : ¬ (("begin_page" : Str) = "pairs") := by decide +kernel
  have k2 : ¬ (("begin_page" : Str) = "exit_of") := by decide +kernel
  have k3 : ¬ (("pairs" : Str) = "exit_of") := by decide +kernel
  simp [putF, k1, k2, k3]
theorem len_flds1 (v : V) : (putF "begin_page" v ([] : List (Str × V))).length = 1 := rfl
theorem len_flds2 (v u : V) : (putF "pairs" u (putF "begin_page" v ([] : List (Str × V)))).length = 2 := by
  have k1 : ¬ (("begin_page" : Str) = "pairs") := by decide +kernel
  simp [putF, k1]
theorem ok_Effect___init (T : Txt P K mg) : FnOk P w K mg base CX0 5 T.f_Effect___init T.fd_Effect___init ["self", "first", "exits"] (spInit T.C_Effect K) := by
  refine T.F_Effect___init.ok sc_Effect___init (fun vs H Q E h => ?_) (fun cdv A outer s H vs Q E hr h => ?_)
  · obtain ⟨x, dx, a, ts, row, v, rfl, _⟩ := h
    rfl
  · obtain ⟨x, dx, a, ts, row, v, rfl, hbg, hx, hA, hp, k⟩ := h
    apply Exists.intro
    apply And.intro
    · apply pss_cons
      · apply ps_if
        · exact (pt_cmpR op_isN (pv 1) pe_non (by rfl))
        · apply pss_one
          exact (ps_set (i := 3) sc_Effect___init.nd rfl (.inl rfl) (pe_and (pe_callB (k_isi (K := K) rfl) (by rfl) T.n_isinstance (by decide +kernel) (pa_cons (pv 2) (pa_cons (pe_bltn (v := .ty "list") (by rfl) T.n_list (by decide +kernel) rfl) pa_nil))) (pe_one (pe_cmpR (k_eqD (K := K) rfl hr.units) (pv 2) (pe_lst pa_nil) (by rfl)))))
        · apply pss_one
          exact (ps_set (i := 3) sc_Effect___init.nd rfl (.inl rfl) (pe_and (pe_call (ok_is_page T) (hr.mono (by decide)) (by rfl) T.ma_is_page_trails T.F_is_page.kp T.b_is_page .nil pass0 (pa_cons (pv 1) pa_nil)) (pe_and (pe_call (ok_are_exits T) (hr.mono (by decide)) (by rfl) T.m_are_exits T.F_are_exits.kp T.b_are_exits .nil pass0 (pa_cons (pv 2) pa_nil)) (pe_one (pe_cmp (pc_din (hu_of hr) (pv 1) (pe_callTy (k_dictP (K := K) rfl rfl) (by rfl) T.n_dict (by decide +kernel) (pa_cons (pv 2) pa_nil))) rfl)))))
      apply pss_cons
      · apply ps_if
        · exact (pt_not (pt_val (pv 3)))
        · apply pss_one
          exact ps_never
        · exact pss_nil
      apply pss_cons
      · exact (k_sfld (K := K) rfl (pv 0) (pv 1) rfl)
      apply pss_cons
      · exact (k_sfld (K := K) rfl (pv 0) (pe_callTy (k_tupOf (K := K) rfl) (by rfl) T.n_tuple (by decide +kernel) (pa_cons (pv 2) pa_nil)) rfl)
      apply pss_one
      exact (k_sfld (K := K) rfl (pv 0) (pe_callTy (k_dictP (K := K) rfl rfl) (by rfl) T.n_dict (by decide +kernel) (pa_cons (pv 2) pa_nil)) rfl)
    have ndk : ((exs row).map (·.1)).Nodup := srt_nodup (exs_srt row)
    have hl40 := exs_len40 row
    refine seq_cut (fun σ' H' => σ' = [some (.ref x), some (v), some (.ref a), some (.bl true)] ∧ Ex H H') (fun N hN => ?_) (fun σ1 H1 hC => ?_)
    · rcases hbg with ⟨rfl, rfl⟩ | ⟨p, hpm, rfl⟩
      · have e0 : exs [] = [] := by decide +kernel
        rw [e0] at hA
        walk_at "sx"
        refine isi_x (b := true) (tyx_l hA.1) (by decide +kernel) ?_
        walk_at "sx"
        refine ⟨sz_ok (by omega), fun z nz1 => ?_⟩
        have ez := Ex.new nz1 (o := .lst [])
        refine eqPairsNil (hA.ex ez) upd_same ?_
        exact hN _ _ ⟨rfl, ez⟩
      · have hp0 := hp p hpm
        have z2 : p ≤ 39 := by omega
        walk_at "sx"
        refine ⟨.int p, rfl, .int p, ?_⟩
        simp only [inR]
        rw [decide_eq_true hp0.1, decide_eq_true z2]
        walk_at "sx"
        refine ⟨a, ts, row, rfl, hA, hp, List.ne_nil_of_mem hpm, fun H1 e1 => ?_⟩
        walk_at "sx"
        refine ⟨a, ts, exs row, rfl, hA.ex e1, ndk, fun d nd => ?_⟩
        have e5 := Ex.new nd (o := .dK ((exs row).map itK))
        refine ⟨d, rfl, _, DGet.k (k := Sum.inl p) upd_same, ?_⟩
        obtain ⟨y, hy⟩ := nx_mem (row := row) (p := p) hpm
        have hg : (valV ((exs row).map itK) (Sum.inl p)).isSome = true := by
          rw [valV_itK ndk ((mem_exs hp).mpr hy)]
          rfl
        rw [hg]
        exact hN _ _ ⟨rfl, e1.trans e5⟩
    obtain ⟨rfl, e1⟩ := hC
    have hA1 := hA.ex e1
    have hx1 := e1 _ _ hx
    walk_at "sx"
    refine ⟨_, dx, _, hx1, T.cl_Effect, T.na_Effect_begin_page, by show 0 < 1000; omega, ?_⟩
    have nxa : ∀ {b : Addr} {o : HO}, H1 b = some o → (∀ C dx fs, o ≠ .ins C dx fs) → b ≠ x := fun h1 h2 => ne_of h1 hx1 (h2 _ _ _)
    have hpx : ∀ (fs : List (Str × V)) i t, ts[i]? = some t → PairAt (upd H1 x (.ins T.C_Effect dx fs)) t ((exs row).getD i (0, 0)) := fun fs i t hi => by
      have h := hA1.2.2 i t hi
      have ne : t ≠ x := ne_of (pr_ev h) hx1 (by intro z; cases z)
      unfold BC.PairAt
      rw [upd_ne ne]
      exact h
    have hAx : ∀ fs : List (Str × V), PairsAt K (upd H1 x (.ins T.C_Effect dx fs)) a ts (exs row) := fun fs => by
      refine ⟨?_, hA1.2.1, hpx fs⟩
      rcases hA1.1 with h | h
      · rcases h with h | ⟨o, h⟩
        · exact .inl (.inl (by rw [upd_ne (ne_of h hx1 (by intro z; cases z))]; exact h))
        · exact .inl (.inr ⟨o, by rw [upd_ne (ne_of h hx1 (by intro z; cases z))]; exact h⟩)
      · exact .inr h
    refine ⟨a, _, rfl, .inl ⟨(hAx _).1, fun t nt => ?_⟩⟩
    have hx2 : ∀ fs : List (Str × V), (upd (upd H1 x (.ins T.C_Effect dx fs)) t (.tup (ts.map V.ref))) x = some (.ins T.C_Effect dx fs) := fun fs => by
      have ntx : x ≠ t := ne_of_none upd_same nt
      rw [upd_ne ntx, upd_same]
    refine ⟨_, dx, _, hx2 _, T.cl_Effect, T.na_Effect_pairs, by rw [len_flds1]; omega, ?_⟩
    have ntx : x ≠ t := ne_of_none upd_same nt
    have nt1 : H1 t = none := by rw [upd_ne (Ne.symm ntx)] at nt; exact nt
    -- the heap with the tuple and the fields
    generalize hf2 : putF "pairs" (V.ref t) (putF "begin_page" (v) []) = f2
    have l2 : f2.length = 2 := by rw [← hf2]; exact len_flds2 _ _
    have hG : ∀ b o, b ≠ x → H1 b = some o → (upd (upd (upd H1 x (.ins T.C_Effect dx (putF "begin_page" (v) []))) t (.tup (ts.map V.ref))) x (.ins T.C_Effect dx f2)) b = some o := fun b o nb h => by
      rw [upd_ne nb, upd_ne (ne_of_none h nt1), upd_ne nb]
      exact h
    have hGx : (upd (upd (upd H1 x (.ins T.C_Effect dx (putF "begin_page" (v) []))) t (.tup (ts.map V.ref))) x (.ins T.C_Effect dx f2)) x = some (.ins T.C_Effect dx f2) := upd_same
    have hGt : (upd (upd (upd H1 x (.ins T.C_Effect dx (putF "begin_page" (v) []))) t (.tup (ts.map V.ref))) x (.ins T.C_Effect dx f2)) t = some (.tup (ts.map V.ref)) := by rw [upd_ne (Ne.symm ntx), upd_same]
    generalize (upd (upd (upd H1 x (.ins T.C_Effect dx (putF "begin_page" (v) []))) t (.tup (ts.map V.ref))) x (.ins T.C_Effect dx f2)) = G at hG hGx hGt ⊢
    have hAG : PairsAt K G a ts (exs row) := by
      refine ⟨?_, hA1.2.1, fun i u hi => ?_⟩
      · rcases hA1.1 with h | h
        · rcases h with h | ⟨o, h⟩
          · exact .inl (.inl (hG _ _ (ne_of h hx1 (by intro z; cases z)) h))
          · exact .inl (.inr ⟨o, hG _ _ (ne_of h hx1 (by intro z; cases z)) h⟩)
        · exact .inr h
      · have h := hA1.2.2 i u hi
        exact hG _ _ (ne_of (pr_ev h) hx1 (by intro z; cases z)) h
    refine ⟨a, ts, exs row, rfl, hAG, ndk, fun d nd => ?_⟩
    have ndx : x ≠ d := ne_of_none hGx nd
    refine ⟨_, dx, f2, by rw [upd_ne ndx]; exact hGx, T.cl_Effect, T.na_Effect_exit_of, by rw [l2]; omega, ?_⟩
    refine k _ (fun b o h nb => ?_) ⟨dx, t, d, ts, ?_, ?_, hA1.2.1, fun i u hi => ?_, ?_⟩
    · have h1 := hG b o nb (e1 _ _ h)
      rw [upd_ne nb, upd_ne (ne_of_none h1 nd)]
      exact h1
    · rw [upd_same, ← hf2, flds_all]
    · rw [upd_ne (Ne.symm ntx), upd_ne (ne_of_none hGt nd)]
      exact hGt
    · have h := hAG.2.2 i u hi
      unfold BC.PairAt
      rw [upd_ne (ne_of (pr_ev h) hGx (by intro z; cases z)), upd_ne (ne_of_none (pr_ev h) nd)]
      exact h
    · rw [upd_ne (Ne.symm ndx), upd_same]
theorem lk_pairs (v : V) (t d : Addr) : ([("begin_page", v), ("pairs", V.ref t), ("exit_of", V.ref d)] : List (Str × V)).lookup ("pairs" : Str) = some (.ref t) := by
  have k1 : (("pairs" : Str) == "begin_page") = false := by decide +kernel
  simp [List.lookup, k1]
theorem lk_exit (v : V) (t d : Addr) : ([("begin_page", v), ("pairs", V.ref t), ("exit_of", V.ref d)] : List (Str × V)).lookup ("exit_of" : Str) = some (.ref d) := by
  have k1 : (("exit_of" : Str) == "begin_page") = false := by decide +kernel
  have k2 : (("exit_of" : Str) == "pairs") = false := by decide +kernel
  simp [List.lookup, k1, k2]
theorem lk_begin (v : V) (t d : Addr) : ([("begin_page", v), ("pairs", V.ref t), ("exit_of", V.ref d)] : List (Str × V)).lookup ("begin_page" : Str) = some v := by
  simp [List.lookup]
end
section
variable {P : Program} {w : World} {K : PySem.W.Frag} {mg : Str → Option Value} {base : Heap}
def spFirst (C : Addr) : Sp := fun vs H Q _ => ∃ (x : Addr) (v : V) (qs : List (Int × Int)), vs = [.ref x] ∧ EffAt C H x v qs ∧ Q v H
theorem ok_Effect_first (T : Txt P K mg) : FnOk P w K mg base CX0 1 T.f_Effect_first T.fd_Effect_first ["self"] (spFirst T.C_Effect) := by
  refine T.F_Effect_first.ok sc_Effect_first (fun vs H Q E h => ?_) (fun cdv A outer s H vs Q E hr h => ?_)
  · obtain ⟨x, v, qs, rfl, _⟩ := h
    rfl
  · obtain ⟨x, v, qs, rfl, hx, k⟩ := h
    apply Exists.intro
    apply And.intro
    · apply pss_one
      exact (ps_ret (k_fld (K := K) rfl (pv 0) rfl))
    obtain ⟨dx, t, d, ts, h1, h2, h3, h4, h5⟩ := hx
    walk_at "sx"
    exact ⟨_, _, _, h1, T.cl_Effect, T.na_Effect_begin_page, _, lk_begin _ _ _, k⟩
def spExits (C : Addr) : Sp := fun vs H Q _ => ∃ (x : Addr) (v : V) (qs : List (Int × Int)), vs = [.ref x] ∧ EffAt C H x v qs ∧ ∀ l ts H', H l = none → Ex H H' → H' l = some (.lst ((ts : List Addr).map V.ref)) → ts.length = qs.length → (∀ i u, ts[i]? = some u → PairAt H' u (qs.getD i (0, 0))) → Q (.ref l) H'
theorem ok_Effect_exits (T : Txt P K mg) : FnOk P w K mg base CX0 1 T.f_Effect_exits T.fd_Effect_exits ["self"] (spExits T.C_Effect) := by
  refine T.F_Effect_exits.ok sc_Effect_exits (fun vs H Q E h => ?_) (fun cdv A outer s H vs Q E hr h => ?_)
  · obtain ⟨x, v, qs, rfl, _⟩ := h
    rfl
  · obtain ⟨x, v, qs, rfl, hx, k⟩ := h
    apply Exists.intro
    apply And.intro
    · apply pss_one
      exact (ps_ret (pe_callTy (k_listOf (K := K) rfl) (by rfl) T.n_list (by decide +kernel) (pa_cons (k_fld (K := K) rfl (pv 0) rfl) pa_nil)))
    obtain ⟨dx, t, d, ts, h1, h2, h3, h4, h5⟩ := hx
    walk_at "sx"
    refine ⟨_, _, _, h1, T.cl_Effect, T.na_Effect_pairs, _, lk_pairs _ _ _, ?_⟩
    refine ⟨t, _, rfl, .inr (.inl (.inl h2)), fun l nl => ?_⟩
    have el := Ex.new nl (o := .lst (ts.map V.ref))
    exact k l ts _ nl el upd_same h3 fun i u hi => el _ _ (h4 i u hi)
def lastV (qs : List (Int × Int)) : V := match rootsOf qs with
  | [] => .non
  | r :: _ => .int r
def spLastE (C : Addr) : Sp := fun vs H Q _ => ∃ (x : Addr) (v : V) (qs : List (Int × Int)), vs = [.ref x] ∧ EffAt C H x v qs ∧ qs.length ≤ 100 ∧ ∀ H', Ex H H' → Q (lastV qs) H'
def spLeaves (C : Addr) : Sp := fun vs H Q _ => ∃ (x : Addr) (v : V) (qs : List (Int × Int)), vs = [.ref x] ∧ EffAt C H x v qs ∧ qs.length ≤ 100 ∧ ∀ l H', H l = none → Ex H H' → H' l = some (.lst ((leavesOf qs).map V.int)) → Q (.ref l) H'
def spLen (C : Addr) : Sp := fun vs H Q _ => ∃ (x : Addr) (v : V) (qs : List (Int × Int)), vs = [.ref x] ∧ EffAt C H x v qs ∧ Q (.int (qs.length : Nat)) H
theorem ok_Effect___len (T : Txt P K mg) : FnOk P w K mg base CX0 1 T.f_Effect___len T.fd_Effect___len ["self"] (spLen T.C_Effect) := by
  refine T.F_Effect___len.ok sc_Effect___len (fun vs H Q E h => ?_) (fun cdv A outer s H vs Q E hr h => ?_)
  · obtain ⟨x, v, qs, rfl, _⟩ := h
    rfl
  · obtain ⟨x, v, qs, rfl, hx, k⟩ := h
    apply Exists.intro
    apply And.intro
    · apply pss_one
      exact (ps_ret (pe_callB (k_len (K := K) rfl) (by rfl) T.n_len PySem.boot_len (pa_cons (k_fld (K := K) rfl (pv 0) rfl) pa_nil)))
    obtain ⟨dx, t, d, ts, h1, h2, h3, h4, h5⟩ := hx
    walk_at "sx"
    refine ⟨_, _, _, h1, T.cl_Effect, T.na_Effect_pairs, _, lk_pairs _ _ _, ?_⟩
    refine lenT (.inl (.inl h2)) ?_
    rw [List.length_map, h3]
    exact k
end
end LW

set_option Elab.async false
set_option linter.all false
set_option maxRecDepth 100000
set_option maxHeartbeats 4000000
namespace LW
open PySem PySem.Spec PyProof.Rows L2 BC Evl TR EF L2.DX SUX
local macro_rules | `(tactic| walk_at "sx") => `(tactic| try simp only [x_callV, x_lcV, x_callKS, BC.x_gtupV, x_methF, x_methF2, x_methR, x_propF, SUX.x_sup1, x_sortSetB, x_lenSetA, x_mulS, x_callS, x_makeS, x_makeKS, x_seq, x_next, x_brk, x_cnt, x_nev, x_ret, x_retN, x_drop, x_ifS, x_asg, x_gn, x_gsub, x_par, x_par3, x_aug, x_for, x_lc, x_rng1, x_rng2, x_rng3, x_ilist, x_itup, x_ienum, x_izip, x_izipA, x_istr, x_var, x_c, x_op, x_un, x_test, x_b, x_chain, x_and, x_or, x_not, x_andV, x_orV, x_notV, x_ife, x_nil, x_cons, x_lst, x_tup, x_cb, x_call, x_callK, x_bm, x_bm0, x_tru, x_sl, x_nopart, x_part, x_revL, x_I0, x_I, x_U, x_ip, x_ipC, x_eqI, x_neI, x_eqB, x_neB, x_eqS, x_neS, x_isB, x_isNB, x_lrg, x_gall, x_lenSet, x_sortSet, x_rg1, x_rg2, x_dnewK, x_dnewT, x_dget, x_dget1, x_dget2, x_din, x_dnotin, x_dput, x_ikeys, x_fld, x_sfld, x_prop, x_meth, x_make, x_dc, x_callO, x_callOK,
  L2.start, List.map_cons, List.map_nil, List.length_cons, List.length_nil, Nat.reduceAdd, Nat.reduceSub, Nat.sub_self, Nat.zero_add, List.replicate, List.replicate_succ, List.replicate_zero, List.append_nil, List.cons_append, List.nil_append, List.set_cons_zero, List.set_cons_succ, List.getElem?_cons_zero, List.getElem?_cons_succ, Option.some.injEq, V.int.injEq, V.bl.injEq, V.ref.injEq, V.str.injEq, List.cons.injEq, and_true, true_and, exists_eq_left', exists_eq_left, exists_and_left, exists_eq, if_true, if_false, ite_true, ite_false, Bool.true_eq_false, Bool.false_eq_true, reduceIte, reduceCtorEq, Bool.not_true, Bool.not_false, decide_true, decide_false, decide_eq_true_eq, Bool.and_true, Bool.true_and, Bool.and_self, Bool.and_false, Bool.false_and, Bool.or_self, Bool.or_false, Bool.false_or, Bool.or_true, Bool.true_or, eq_self])
section
variable {P : Program} {w : World} {K : PySem.W.Frag} {mg : Str → Option Value} {base : Heap}
/-! the four classes and their objects -/
def kcl (T : Txt P K mg) : Nat → Addr := fun _ => T.C_Trail
theorem kcl_mem (T : Txt P K mg) (k : Nat) : kcl T k ∈ [T.C_Trail] := List.mem_cons_self
structure Knd (K : PySem.W.Frag) (C : Addr) : Prop where
  cl : Cls K C
  now : NoAttr K C "now"
  past : NoAttr K C "past"
theorem knd (T : Txt P K mg) (k : Nat) : Knd K (kcl T k) := ⟨T.cl_Trail, T.na_Trail_now, T.na_Trail_past⟩
/-- short ones: 1 and 3 -/
def isSh (_ : Nat) : Bool := false
def flds (k : Nat) (n p : Addr) (bd : Nat) : List (Str × V) := ([("now", V.ref n), ("past", V.ref p)] : List (Str × V)) ++ (if isSh k = true then ([("bound", V.int (bd : Nat))] : List (Str × V)) else [])
theorem nm1 : (("past" : Str) == "now") = false := by decide +kernel
theorem nm2 : (("bound" : Str) == "now") = false := by decide +kernel
theorem nm3 : (("bound" : Str) == "past") = false := by decide +kernel
theorem fl_now (k : Nat) (n p : Addr) (bd : Nat) : (flds k n p bd).lookup ("now" : Str) = some (.ref n) := by
  unfold flds
  simp [List.lookup]
theorem fl_past (k : Nat) (n p : Addr) (bd : Nat) : (flds k n p bd).lookup ("past" : Str) = some (.ref p) := by
  unfold flds
  simp [List.lookup, nm1]
theorem fl_bound {k : Nat} (n p : Addr) (bd : Nat) (h : isSh k = true) : (flds k n p bd).lookup ("bound" : Str) = some (.int (bd : Nat)) := by
  unfold flds
  rw [if_pos h]
  simp [List.lookup, nm2, nm3]
theorem fl_no (k : Nat) (n p : Addr) (bd : Nat) {m : Str} (h1 : (m == ("now" : Str)) = false) (h2 : (m == ("past" : Str)) = false) (h3 : (m == ("bound" : Str)) = false) : (flds k n p bd).lookup m = none := by
  unfold flds
  split <;> simp [List.lookup, h1, h2, h3]
theorem fl_put (k : Nat) (n n2 p : Addr) (bd : Nat) : putF "now" (V.ref n2) (flds k n p bd) = flds k n2 p bd := by
  unfold flds
  split <;> simp [putF]
theorem fl_len (k : Nat) (n p : Addr) (bd : Nat) : (flds k n p bd).length < 1000 := by
  unfold flds
  split <;> simp
/-- one state: the tuple of the trail, the visits and their effect -/
def NowAt (CE : Addr) (H : Hp) (n : Addr) (s : List Int × List Int) : Prop := ∃ t v e, H n = some (.tup [.ref t, .ref v, .ref e]) ∧ H t = some (.tup (s.1.map V.int)) ∧ H v = some (.tup (s.2.map V.int)) ∧ EffAt CE H e (firstV s.2) (exs s.2)
theorem NowAt.ex {CE : Addr} {H H' : Hp} {n : Addr} {s : List Int × List Int} (h : NowAt CE H n s) (e : Ex H H') : NowAt CE H' n s := by
  obtain ⟨t, v, f, h1, h2, h3, h4⟩ := h
  exact ⟨t, v, f, e _ _ h1, e _ _ h2, e _ _ h3, h4.ex e⟩
/-- what is kept but for lists and objects of other classes -/
def Kp (CE : Addr) (H H' : Hp) : Prop := ∀ a o, H a = some o → (∀ xs, o ≠ .lst xs) → (∀ C dx fs, o = .ins C dx fs → fs.lookup ("now" : Str) = none) → H' a = some o
theorem Kp.of {CE : Addr} {H H' : Hp} (e : Ex H H') : Kp CE H H' := fun a o h _ _ => e a o h
theorem Kp.trans {CE : Addr} {H H1 H2 : Hp} (a : Kp CE H H1) (b : Kp CE H1 H2) : Kp CE H H2 := fun x o h n m => b x o (a x o h n m) n m
theorem Kp.fx {CE : Addr} {H H' : Hp} {l : Addr} {xs : List V} (hl : H l = some (.lst xs)) (f : Fx l H H') : Kp CE H H' := fun a o h n _ => f a o (ne_of h hl (n xs)) h
theorem Kp.ins {CE : Addr} {H : Hp} {x C dx : Addr} {fs : List (Str × V)} {o : HO} (hx : H x = some (.ins C dx fs)) (ne : fs.lookup ("now" : Str) ≠ none) : Kp CE H (upd H x o) := fun a u h _ m => by
  rw [upd_ne (fun e => by subst e; rw [hx] at h; cases h; exact ne (m _ _ _ rfl))]
  exact h
theorem eff_now (v : V) (t d : Addr) : ([("begin_page", v), ("pairs", V.ref t), ("exit_of", V.ref d)] : List (Str × V)).lookup ("now" : Str) = none := by
  have k1 : (("now" : Str) == "begin_page") = false := by decide +kernel
  have k2 : (("now" : Str) == "pairs") = false := by decide +kernel
  have k3 : (("now" : Str) == "exit_of") = false := by decide +kernel
  simp [List.lookup, k1, k2, k3]
theorem EffAt.kp {CE : Addr} {H H' : Hp} {x : Addr} {v : V} {qs : List (Int × Int)} (h : EffAt CE H x v qs) (g : Kp CE H H') : EffAt CE H' x v qs := by
  obtain ⟨dx, t, d, ts, h1, h2, h3, h4, h5⟩ := h
  have n : ∀ {a : Addr} {o : HO}, H a = some o → (∀ xs, o ≠ .lst xs) → (∀ C dx fs, o ≠ .ins C dx fs) → H' a = some o := fun h n m => g _ _ h n fun C dx fs e => absurd e (m C dx fs)
  exact ⟨dx, t, d, ts, g _ _ h1 (by intro xs z; cases z) (by intro C dx fs z; cases z; exact eff_now _ _ _), n h2 (by intro xs z; cases z) (by intro C dx fs z; cases z), h3, fun i u hi => n (h4 i u hi) (by intro xs z; cases z) (by intro C dx fs z; cases z), n h5 (by intro xs z; cases z) (by intro C dx fs z; cases z)⟩
theorem NowAt.kp {CE : Addr} {H H' : Hp} {n : Addr} {s : List Int × List Int} (h : NowAt CE H n s) (g : Kp CE H H') : NowAt CE H' n s := by
  obtain ⟨t, v, f, h1, h2, h3, h4⟩ := h
  have k : ∀ {a : Addr} {xs : List V}, H a = some (.tup xs) → H' a = some (.tup xs) := fun h => g _ _ h (by intro xs z; cases z) (by intro C dx fs z; cases z)
  exact ⟨t, v, f, k h1, k h2, k h3, h4.kp g⟩
def PastAt (CE : Addr) (H : Hp) (p : Addr) (ps : List (List Int × List Int)) : Prop := ∃ qs, H p = some (.lst ((qs : List Addr).map V.ref)) ∧ qs.length = ps.length ∧ ∀ (i : Nat) q s, qs[i]? = some q → ps[i]? = some s → NowAt CE H q s
theorem PastAt.ex {CE : Addr} {H H' : Hp} {p : Addr} {ps : List (List Int × List Int)} (h : PastAt CE H p ps) (e : Ex H H') : PastAt CE H' p ps := by
  obtain ⟨qs, h1, h2, h3⟩ := h
  exact ⟨qs, e _ _ h1, h2, fun i q s a b => (h3 i q s a b).ex e⟩
theorem PastAt.kp {CE : Addr} {H H' : Hp} {p : Addr} {ps : List (List Int × List Int)} (h : PastAt CE H p ps) (g : Kp CE H H') (e : ∀ o, H p = some o → H' p = some o) : PastAt CE H' p ps := by
  obtain ⟨qs, h1, h2, h3⟩ := h
  exact ⟨qs, e _ h1, h2, fun i q s a b => (h3 i q s a b).kp g⟩
/-- a live trail of kind k stands at x -/
def LivAt (T : Txt P K mg) (H : Hp) (k bd : Nat) (x p : Addr) (s : List Int × List Int) (ps : List (List Int × List Int)) : Prop := ∃ dx n, H x = some (.ins (kcl T k) dx (flds k n p bd)) ∧ NowAt T.C_Effect H n s ∧ PastAt T.C_Effect H p ps
theorem LivAt.ex {T : Txt P K mg} {H H' : Hp} {k bd : Nat} {x p : Addr} {s : List Int × List Int} {ps : List (List Int × List Int)} (h : LivAt T H k bd x p s ps) (e : Ex H H') : LivAt T H' k bd x p s ps := by
  obtain ⟨dx, n, h1, h2, h3⟩ := h
  exact ⟨dx, n, e _ _ h1, h2.ex e, h3.ex e⟩
/-- a list elsewhere is changed -/
theorem LivAt.fx {T : Txt P K mg} {H H' : Hp} {k bd : Nat} {x p l : Addr} {xs : List V} {s : List Int × List Int} {ps : List (List Int × List Int)} (h : LivAt T H k bd x p s ps) (hl : H l = some (.lst xs)) (ne : p ≠ l) (f : Fx l H H') : LivAt T H' k bd x p s ps := by
  obtain ⟨dx, n, h1, h2, h3⟩ := h
  exact ⟨dx, n, f _ _ (ne_of h1 hl (by intro z; cases z)) h1, h2.kp (Kp.fx hl f), h3.kp (Kp.fx hl f) fun o e => f _ _ ne e⟩
theorem LivAt.fxb {T : Txt P K mg} {H H' : Hp} {k bd c : Nat} {x p b : Addr} {s : List Int × List Int} {ps : List (List Int × List Int)} (h : LivAt T H k bd x p s ps) (hb : BagAt H b c) (ne : p ≠ b) (f : Fx b H H') : LivAt T H' k bd x p s ps := by
  obtain ⟨x0, x1, x2, hb, _⟩ := hb
  exact h.fx hb ne f
theorem LivAt.pst {T : Txt P K mg} {H : Hp} {k bd : Nat} {x p : Addr} {s : List Int × List Int} {ps : List (List Int × List Int)} (h : LivAt T H k bd x p s ps) : ∃ xs, H p = some (.lst xs) := by
  obtain ⟨dx, n, h1, h2, qs, h3, _⟩ := h
  exact ⟨_, h3⟩
theorem LivAt.self {T : Txt P K mg} {H : Hp} {k bd : Nat} {x p : Addr} {s : List Int × List Int} {ps : List (List Int × List Int)} (h : LivAt T H k bd x p s ps) : ∃ C dx fs, H x = some (.ins C dx fs) := by
  obtain ⟨dx, n, h1, _⟩ := h
  exact ⟨_, _, _, h1⟩
/-- what holds of a state's numbers -/
structure SOk (n : Nat) (s : List Int × List Int) : Prop where
  nd : s.1.Nodup
  pg : Pg 40 s.1
  pv : Pg 40 s.2
  ln : s.2.length ≤ n
theorem SOk.l40 {n : Nat} {s : List Int × List Int} (h : SOk n s) : s.1.length ≤ 40 := nodup_len 40 h.nd h.pg
theorem SOk.mono {n m : Nat} {s : List Int × List Int} (h : SOk n s) (e : n ≤ m) : SOk m s := ⟨h.nd, h.pg, h.pv, Nat.le_trans h.ln e⟩
/-! the plain play -/
def top (k bd : Nat) : Nat := if isSh k = true then bd else 40
def stp (b : Nat) (t : List Int) (p : Int) : List Int := if b < (vis t p).length then (vis t p).drop 1 else vis t p
def plT (b : Nat) (t ns : List Int) : List Int := ns.foldl (stp b) t
def nwB (b : Nat) (t ns : List Int) : List Bool := (List.range ns.length).map fun i => decide (ns.getD i 0 ∉ plT b t (ns.take i))
theorem stp_nd {b : Nat} {t : List Int} {p : Int} (h : t.Nodup) : (stp b t p).Nodup := by
  unfold stp
  split
  · exact (vis_nodup h).sublist (List.drop_sublist _ _)
  · exact vis_nodup h
theorem stp_pg {b : Nat} {t : List Int} {p : Int} (h : Pg 40 t) (h0 : 0 ≤ p) (h1 : p < 40) : Pg 40 (stp b t p) := by
  unfold stp
  split
  · exact fun x hx => vis_pg h h0 h1 x (List.mem_of_mem_drop hx)
  · exact vis_pg h h0 h1
theorem plT_ok {b : Nat} : ∀ {ns t : List Int}, t.Nodup → Pg 40 t → Pg 40 ns → (plT b t ns).Nodup ∧ Pg 40 (plT b t ns)
  | [], t, h1, h2, _ => ⟨h1, h2⟩
  | a :: ns, t, h1, h2, h3 => plT_ok (ns := ns) (t := stp b t a) (stp_nd h1) (stp_pg h2 (h3 a List.mem_cons_self).1 (h3 a List.mem_cons_self).2) fun x hx => h3 x (List.mem_cons_of_mem _ hx)
theorem plT_snoc {b : Nat} {t ns : List Int} {i : Nat} {p : Int} (h : ns[i]? = some p) : plT b t (ns.take (i + 1)) = stp b (plT b t (ns.take i)) p := by
  unfold plT
  rw [List.take_add_one, h, List.foldl_append]
  rfl
theorem nwB_len (b : Nat) (t ns : List Int) : (nwB b t ns).length = ns.length := by unfold nwB; rw [List.length_map, List.length_range]
theorem nwB_snoc {b : Nat} {t ns : List Int} {i : Nat} {p : Int} (h : ns[i]? = some p) : (nwB b t ns).take (i + 1) = (nwB b t ns).take i ++ [decide (p ∉ plT b t (ns.take i))] := by
  have hi := (List.getElem?_eq_some_iff.mp h).1
  have e : (nwB b t ns)[i]? = some (decide (p ∉ plT b t (ns.take i))) := by
    unfold nwB
    rw [List.getElem?_map, List.getElem?_range hi]
    show some (decide (ns.getD i 0 ∉ _)) = _
    rw [List.getD_eq_getElem?_getD, h]
    rfl
  rw [List.take_add_one, e]
  rfl
theorem SOk.play {n : Nat} {s : List Int × List Int} (h : SOk n s) {b : Nat} {ns : List Int} (hp : Pg 40 ns) : SOk (n + ns.length) (plT b s.1 ns, s.2 ++ ns) := by
  obtain ⟨h1, h2⟩ := plT_ok (b := b) h.nd h.pg hp
  exact ⟨h1, h2, fun x hx => (List.mem_append.mp hx).elim (h.pv x) (hp x), by have := h.ln; simp; omega⟩
theorem nok_le {s : List Int × List Int} {n : Nat} (h : SOk n s) (hn : n ≤ 5000) : s.2.length ≤ 5000 := Nat.le_trans h.ln hn
end
end LW

set_option Elab.async false
set_option linter.all false
set_option maxRecDepth 100000
set_option maxHeartbeats 4000000
namespace LW
open PySem PySem.Spec PyProof.Rows L2 BC Evl TR EF L2.DX SUX
local macro_rules | `(tactic| walk_at "sx") => `(tactic| try simp only [x_callV, x_lcV, x_callKS, BC.x_gtupV, x_methF, x_methF2, x_methR, x_propF, SUX.x_sup1, x_sortSetB, x_lenSetA, x_mulS, x_callS, x_makeS, x_makeKS, x_seq, x_next, x_brk, x_cnt, x_nev, x_ret, x_retN, x_drop, x_ifS, x_asg, x_gn, x_gsub, x_par, x_par3, x_aug, x_for, x_lc, x_rng1, x_rng2, x_rng3, x_ilist, x_itup, x_ienum, x_izip, x_izipA, x_istr, x_var, x_c, x_op, x_un, x_test, x_b, x_chain, x_and, x_or, x_not, x_andV, x_orV, x_notV, x_ife, x_nil, x_cons, x_lst, x_tup, x_cb, x_call, x_callK, x_bm, x_bm0, x_tru, x_sl, x_nopart, x_part, x_revL, x_I0, x_I, x_U, x_ip, x_ipC, x_eqI, x_neI, x_eqB, x_neB, x_eqS, x_neS, x_isB, x_isNB, x_lrg, x_gall, x_lenSet, x_sortSet, x_rg1, x_rg2, x_dnewK, x_dnewT, x_dget, x_dget1, x_dget2, x_din, x_dnotin, x_dput, x_ikeys, x_fld, x_sfld, x_prop, x_meth, x_make, x_dc, x_callO, x_callOK,
  L2.start, List.map_cons, List.map_nil, List.length_cons, List.length_nil, Nat.reduceAdd, Nat.reduceSub, Nat.sub_self, Nat.zero_add, List.replicate, List.replicate_succ, List.replicate_zero, List.append_nil, List.cons_append, List.nil_append, List.set_cons_zero, List.set_cons_succ, List.getElem?_cons_zero, List.getElem?_cons_succ, Option.some.injEq, V.int.injEq, V.bl.injEq, V.ref.injEq, V.str.injEq, List.cons.injEq, and_true, true_and, exists_eq_left', exists_eq_left, exists_and_left, exists_eq, if_true, if_false, ite_true, ite_false, Bool.true_eq_false, Bool.false_eq_true, reduceIte, reduceCtorEq, Bool.not_true, Bool.not_false, decide_true, decide_false, decide_eq_true_eq, Bool.and_true, Bool.true_and, Bool.and_self, Bool.and_false, Bool.false_and, Bool.or_self, Bool.or_false, Bool.false_or, Bool.or_true, Bool.true_or, eq_self])
section
variable {P : Program} {w : World} {K : PySem.W.Frag} {mg : Str → Option Value} {base : Heap}
theorem ixT {H : Hp} {Q : VK} {p : Addr} {xs : List V} {i : Int} {v : V} (h : SqT K H p xs) (hi : atI xs i = some v) (q : Q v H) : rIxT K (.ref p) (.int i) H Q := ⟨p, xs, i, v, rfl, rfl, h, hi, q⟩
/-- the object's state is read -/
theorem rd_now {T : Txt P K mg} {H : Hp} {R : V → Prop} {k bd : Nat} {x p : Addr} {s : List Int × List Int} {ps : List (List Int × List Int)} (h : LivAt T H k bd x p s ps) (q : ∀ n, NowAt T.C_Effect H n s → R (.ref n)) :
    ∃ C dx fs, H x = some (.ins C dx fs) ∧ Cls K C ∧ NoAttr K C "now" ∧ ∃ v, fs.lookup ("now" : Str) = some v ∧ R v := by
  obtain ⟨dx, n, h1, h2, h3⟩ := h
  exact ⟨_, _, _, h1, (knd T k).cl, (knd T k).now, _, fl_now _ _ _ _, q n h2⟩
def spTrl (T : Txt P K mg) : Sp := fun vs H Q _ => ∃ (x p : Addr) (k bd : Nat) (s : List Int × List Int) (ps : List (List Int × List Int)), vs = [.ref x] ∧ LivAt T H k bd x p s ps ∧ ∀ l H', H l = none → Ex H H' → H' l = some (.lst (s.1.map V.int)) → Q (.ref l) H'
theorem ok_Trail_trail (T : Txt P K mg) : FnOk P w K mg base CX0 1 T.f_Trail_trail T.fd_Trail_trail ["self"] (spTrl T) := by
  refine T.F_Trail_trail.ok sc_Trail_trail (fun vs H Q E h => ?_) (fun cdv A outer s H vs Q E hr h => ?_)
  · obtain ⟨x, p, k, bd, s, ps, rfl, _⟩ := h
    rfl
  · obtain ⟨x, p, k, bd, s, ps, rfl, hx, kk⟩ := h
    apply Exists.intro
    apply And.intro
    · apply pss_one
      exact (ps_ret (pe_callTy (k_listOf (K := K) rfl) (by rfl) T.n_list (by decide +kernel) (pa_cons (pe_ix (k_ix_tup (K := K) rfl) (k_fld (K := K) rfl (pv 0) rfl) pe_int (fun _ _ => rfl)) pa_nil)))
    walk_at "sx"
    refine rd_now hx fun n hn => ?_
    obtain ⟨t, v, e, h1, h2, h3, h4⟩ := hn
    refine ixT (.inl (.inl h1)) (atI_n (j := 0) rfl rfl) ?_
    refine ⟨t, _, rfl, .inr (.inl (.inl h2)), fun l nl => ?_⟩
    exact kk l _ nl (Ex.new nl) upd_same
def spVts (T : Txt P K mg) : Sp := fun vs H Q _ => ∃ (x p : Addr) (k bd : Nat) (s : List Int × List Int) (ps : List (List Int × List Int)), vs = [.ref x] ∧ LivAt T H k bd x p s ps ∧ ∀ l H', H l = none → Ex H H' → H' l = some (.lst (s.2.map V.int)) → Q (.ref l) H'
theorem ok_Trail_visits (T : Txt P K mg) : FnOk P w K mg base CX0 1 T.f_Trail_visits T.fd_Trail_visits ["self"] (spVts T) := by
  refine T.F_Trail_visits.ok sc_Trail_visits (fun vs H Q E h => ?_) (fun cdv A outer s H vs Q E hr h => ?_)
  · obtain ⟨x, p, k, bd, s, ps, rfl, _⟩ := h
    rfl
  · obtain ⟨x, p, k, bd, s, ps, rfl, hx, kk⟩ := h
    apply Exists.intro
    apply And.intro
    · apply pss_one
      exact (ps_ret (pe_callTy (k_listOf (K := K) rfl) (by rfl) T.n_list (by decide +kernel) (pa_cons (pe_ix (k_ix_tup (K := K) rfl) (k_fld (K := K) rfl (pv 0) rfl) pe_int (fun _ _ => rfl)) pa_nil)))
    walk_at "sx"
    refine rd_now hx fun n hn => ?_
    obtain ⟨t, v, e, h1, h2, h3, h4⟩ := hn
    refine ixT (.inl (.inl h1)) (atI_n (j := 1) rfl rfl) ?_
    refine ⟨v, _, rfl, .inr (.inl (.inl h3)), fun l nl => ?_⟩
    exact kk l _ nl (Ex.new nl) upd_same
def spEff (T : Txt P K mg) : Sp := fun vs H Q _ => ∃ (x p : Addr) (k bd : Nat) (s : List Int × List Int) (ps : List (List Int × List Int)), vs = [.ref x] ∧ LivAt T H k bd x p s ps ∧ ∀ e, EffAt T.C_Effect H e (firstV s.2) (exs s.2) → Q (.ref e) H
theorem ok_Trail_effect (T : Txt P K mg) : FnOk P w K mg base CX0 1 T.f_Trail_effect T.fd_Trail_effect ["self"] (spEff T) := by
  refine T.F_Trail_effect.ok sc_Trail_effect (fun vs H Q E h => ?_) (fun cdv A outer s H vs Q E hr h => ?_)
  · obtain ⟨x, p, k, bd, s, ps, rfl, _⟩ := h
    rfl
  · obtain ⟨x, p, k, bd, s, ps, rfl, hx, kk⟩ := h
    apply Exists.intro
    apply And.intro
    · apply pss_one
      exact (ps_ret (pe_ix (k_ix_tup (K := K) rfl) (k_fld (K := K) rfl (pv 0) rfl) pe_int (fun _ _ => rfl)))
    walk_at "sx"
    refine rd_now hx fun n hn => ?_
    obtain ⟨t, v, e, h1, h2, h3, h4⟩ := hn
    refine ixT (.inl (.inl h1)) (atI_n (j := 2) rfl rfl) ?_
    exact kk e h4
def spLn (T : Txt P K mg) : Sp := fun vs H Q _ => ∃ (x p : Addr) (k bd : Nat) (s : List Int × List Int) (ps : List (List Int × List Int)), vs = [.ref x] ∧ LivAt T H k bd x p s ps ∧ Q (.int (s.1.length : Nat)) H
theorem ok_Trail___len (T : Txt P K mg) : FnOk P w K mg base CX0 1 T.f_Trail___len T.fd_Trail___len ["self"] (spLn T) := by
  refine T.F_Trail___len.ok sc_Trail___len (fun vs H Q E h => ?_) (fun cdv A outer s H vs Q E hr h => ?_)
  · obtain ⟨x, p, k, bd, s, ps, rfl, _⟩ := h
    rfl
  · obtain ⟨x, p, k, bd, s, ps, rfl, hx, kk⟩ := h
    apply Exists.intro
    apply And.intro
    · apply pss_one
      exact (ps_ret (pe_callB (k_len (K := K) rfl) (by rfl) T.n_len PySem.boot_len (pa_cons (pe_ix (k_ix_tup (K := K) rfl) (k_fld (K := K) rfl (pv 0) rfl) pe_int (fun _ _ => rfl)) pa_nil)))
    walk_at "sx"
    refine rd_now hx fun n hn => ?_
    obtain ⟨t, v, e, h1, h2, h3, h4⟩ := hn
    refine ixT (.inl (.inl h1)) (atI_n (j := 0) rfl rfl) ?_
    refine lenT (.inl (.inl h2)) ?_
    rw [List.length_map]
    exact kk
/-- whether a value is a page of the trail -/
def inTr (t : List Int) : V → Bool
  | .int i => decide (i ∈ t)
  | _ => false
theorem inT {H : Hp} {Q : VK} {a : Addr} {p : Int} {ns : List Int} (h : SqT K H a (ns.map V.int)) (q : Q (.bl (decide (p ∈ ns))) H) : rIn K false (.int p) (.ref a) H Q :=
  ⟨a, _, rfl, .inr h, rfl, flat_ints ns, by rw [inV_ints]; exact q⟩
def spIn (T : Txt P K mg) : Sp := fun vs H Q _ => ∃ (x p : Addr) (k bd : Nat) (s : List Int × List Int) (ps : List (List Int × List Int)) (v : V), vs = [.ref x, v] ∧ LivAt T H k bd x p s ps ∧ Pg 40 s.1 ∧ Kd K H v ∧ Q (.bl (inTr s.1 v)) H
theorem ok_Trail___contains (T : Txt P K mg) : FnOk P w K mg base CX0 3 T.f_Trail___contains T.fd_Trail___contains ["self", "value"] (spIn T) := by
  refine T.F_Trail___contains.ok sc_Trail___contains (fun vs H Q E h => ?_) (fun cdv A outer s H vs Q E hr h => ?_)
  · obtain ⟨x, p, k, bd, s, ps, v, rfl, _⟩ := h
    rfl
  · obtain ⟨x, p, k, bd, s, ps, v, rfl, hx, hp, kd, kk⟩ := h
    apply Exists.intro
    apply And.intro
    · apply pss_one
      exact (ps_ret (pe_and (pe_call (ok_is_page T) (hr.mono (by decide)) (by rfl) T.ma_is_page_trails T.F_is_page.kp T.b_is_page .nil pass0 (pa_cons (pv 1) pa_nil)) (pe_one (pe_cmpR (k_in (K := K) rfl) (pv 1) (pe_ix (k_ix_tup (K := K) rfl) (k_fld (K := K) rfl (pv 0) rfl) pe_int (fun _ _ => rfl)) (by rfl)))))
    walk_at "sx"
    refine ⟨v, rfl, kd, ?_⟩
    cases c : inR 0 39 v with
    | false =>
      have e : inTr s.1 v = false := by
        cases v with
        | int i =>
          refine decide_eq_false fun m => ?_
          have := hp i m
          have c' : (decide (0 ≤ i) && decide (i ≤ 39)) = false := c
          rw [decide_eq_true (by omega), decide_eq_true (by omega)] at c'
          cases c'
        | _ => rfl
      rw [e] at kk
      walk_at "sx"
      exact kk
    | true =>
      cases v with
      | int i =>
        walk_at "sx"
        refine rd_now hx fun n hn => ?_
        obtain ⟨t, v, e, h1, h2, h3, h4⟩ := hn
        refine ixT (.inl (.inl h1)) (atI_n (j := 0) rfl rfl) ?_
        exact inT (.inl (.inl h2)) kk
      | _ => cases c
def spSh0 : Sp := fun vs H Q _ => ∃ (x a : Addr), vs = [.ref x, .ref a] ∧ Q (.ref a) H
theorem ok_Trail_shortened (T : Txt P K mg) : FnOk P w K mg base CX0 1 T.f_Trail_shortened T.fd_Trail_shortened ["self", "trail"] spSh0 := by
  refine T.F_Trail_shortened.ok sc_Trail_shortened (fun vs H Q E h => ?_) (fun cdv A outer s H vs Q E hr h => ?_)
  · obtain ⟨x, a, rfl, _⟩ := h
    rfl
  · obtain ⟨x, a, rfl, kk⟩ := h
    apply Exists.intro
    apply And.intro
    · apply pss_one
      exact (ps_ret (pv 1))
    walk_at "sx"
    exact kk
end
end LW

set_option Elab.async false
set_option linter.all false
set_option maxRecDepth 100000
set_option maxHeartbeats 4000000
namespace LW
open PySem PySem.Spec PyProof.Rows L2 BC Evl TR EF L2.DX SUX
local macro_rules | `(tactic| walk_at "sx") => `(tactic| try simp only [x_callV, x_lcV, x_callKS, BC.x_gtupV, x_methF, x_methF2, x_methR, x_propF, SUX.x_sup1, x_sortSetB, x_lenSetA, x_mulS, x_callS, x_makeS, x_makeKS, x_seq, x_next, x_brk, x_cnt, x_nev, x_ret, x_retN, x_drop, x_ifS, x_asg, x_gn, x_gsub, x_par, x_par3, x_aug, x_for, x_lc, x_rng1, x_rng2, x_rng3, x_ilist, x_itup, x_ienum, x_izip, x_izipA, x_istr, x_var, x_c, x_op, x_un, x_test, x_b, x_chain, x_and, x_or, x_not, x_andV, x_orV, x_notV, x_ife, x_nil, x_cons, x_lst, x_tup, x_cb, x_call, x_callK, x_bm, x_bm0, x_tru, x_sl, x_nopart, x_part, x_revL, x_I0, x_I, x_U, x_ip, x_ipC, x_eqI, x_neI, x_eqB, x_neB, x_eqS, x_neS, x_isB, x_isNB, x_lrg, x_gall, x_lenSet, x_sortSet, x_rg1, x_rg2, x_dnewK, x_dnewT, x_dget, x_dget1, x_dget2, x_din, x_dnotin, x_dput, x_ikeys, x_fld, x_sfld, x_prop, x_meth, x_make, x_dc, x_callO, x_callOK,
  L2.start, List.map_cons, List.map_nil, List.length_cons, List.length_nil, Nat.reduceAdd, Nat.reduceSub, Nat.sub_self, Nat.zero_add, List.replicate, List.replicate_succ, List.replicate_zero, List.append_nil, List.cons_append, List.nil_append, List.set_cons_zero, List.set_cons_succ, List.getElem?_cons_zero, List.getElem?_cons_succ, Option.some.injEq, V.int.injEq, V.bl.injEq, V.ref.injEq, V.str.injEq, List.cons.injEq, and_true, true_and, exists_eq_left', exists_eq_left, exists_and_left, exists_eq, if_true, if_false, ite_true, ite_false, Bool.true_eq_false, Bool.false_eq_true, reduceIte, reduceCtorEq, Bool.not_true, Bool.not_false, decide_true, decide_false, decide_eq_true_eq, Bool.and_true, Bool.true_and, Bool.and_self, Bool.and_false, Bool.false_and, Bool.or_self, Bool.or_false, Bool.false_or, Bool.or_true, Bool.true_or, eq_self])
section
variable {P : Program} {w : World} {K : PySem.W.Frag} {mg : Str → Option Value} {base : Heap}
theorem sqL_fx {H H2 H3 : Hp} {a f : Addr} {xs : List V} (h : SqL K H a xs) (nf : H f = none) (e : Ex H H2) (g : Fx f H2 H3) : SqL K H3 a xs := by
  rcases h with h | h
  · rcases h with h | ⟨o, h⟩
    · exact .inl (.inl (g _ _ (ne_of_none h nf) (e _ _ h)))
    · exact .inl (.inr ⟨o, g _ _ (ne_of_none h nf) (e _ _ h)⟩)
  · exact .inr h
/-- after(pages): the trail and the marks, or an error -/
def spAfter (T : Txt P K mg) : Sp := fun vs H Q E => ∃ (x p a : Addr) (k bd : Nat) (s : List Int × List Int) (ps : List (List Int × List Int)) (xs : List V), vs = [.ref x, .ref a] ∧ LivAt T H k bd x p s ps ∧ s.1.Nodup ∧ Pg 40 s.1 ∧ SqL K H a xs ∧ xs.length ≤ 5000 ∧ (∀ v ∈ xs, ∀ H', Ex H H' → Kd K H' v) ∧
  (∀ ns : List Int, xs = ns.map V.int → Pg 40 ns → ∀ t r f H', H t = none → H r = none → H f = none → Ex H H' → H' t = some (.tup [.ref r, .ref f]) → H' r = some (.lst ((plT (top k bd) s.1 ns).map V.int)) → H' f = some (.lst ((nwB (top k bd) s.1 ns).map V.bl)) → Q (.ref t) H') ∧
  (xs.all (inR 0 39) = false → ∀ H', Ex H H' → E (.ref T.C_InvalidPageError) none H')
theorem all_ints : ∀ {xs : List V}, xs.all (inR 0 39) = true → ∃ ns : List Int, xs = ns.map V.int ∧ Pg 40 ns
  | [], _ => ⟨[], rfl, pg_nil _⟩
  | v :: xs, h => by
    rw [List.all_cons, Bool.and_eq_true] at h
    obtain ⟨ns, rfl, hp⟩ := all_ints h.2
    cases v with
    | int i =>
      have h1 : (decide (0 ≤ i) && decide (i ≤ 39)) = true := h.1
      rw [Bool.and_eq_true, decide_eq_true_eq, decide_eq_true_eq] at h1
      exact ⟨i :: ns, rfl, fun x hx => (List.mem_cons.mp hx).elim (fun e => by rw [e]; omega) (hp x)⟩
    | _ => cases h.1
theorem dblV {α : Type} (d : α) : ∀ (xs : List α), (List.range xs.length).map (fun i => xs.getD i d) = xs := fun xs => by
  apply List.ext_getElem?
  intro i
  rw [List.getElem?_map]
  by_cases h : i < xs.length
  · rw [List.getElem?_range h, List.getElem?_eq_getElem h, Option.map_some, List.getD_eq_getElem?_getD, List.getElem?_eq_getElem h]
    rfl
  · rw [List.getElem?_eq_none (by rw [List.length_range]; omega), List.getElem?_eq_none (by omega)]
    rfl
def JAf (H1 H2 : Hp) (x a f : Addr) (b : Nat) (t ns : List Int) (i : Nat) (σ' : L2.St) (H' : Hp) : Prop := ∃ r l4, σ' = [some (.ref x), some (.ref a), l4, some (.ref r), some (.ref f)] ∧ Fx f H2 H' ∧ H1 r = none ∧ r ≠ f ∧ H' r = some (.lst ((plT b t (ns.take i)).map V.int)) ∧ H' f = some (.lst (((nwB b t ns).take i).map V.bl))
theorem ok_Trail_after (T : Txt P K mg) : FnOk P w K mg base (L2N.CX P w) 3 T.f_Trail_after T.fd_Trail_after ["self", "pages"] (spAfter T) := by
  refine okXN T.F_Trail_after sc_Trail_after (fun vs H Q E h => ?_) (fun cdv A outer s H vs Q E hr h => ?_)
  · obtain ⟨x, p, a, k, bd, s, ps, xs, rfl, _⟩ := h
    rfl
  · obtain ⟨x, p, a, k, bd, s, ps, xs, rfl, hx, hnd, hpg, ha, hl, hkd, k1, k2⟩ := h
    apply Exists.intro
    apply And.intro
    · apply pss_cons
      · apply ps_if
        · exact (pt_not (pt_val (pe_callB (k_all (K := K) rfl rfl) (by rfl) T.n_all (by decide +kernel) (pa_cons (pe_lc (own := [("page", 2)]) rfl sc_Trail_after.nd (k_pi_list (K := K) rfl (pv 1)) (blkOk_by (own := [("page", 2)]) (N := ["self", "pages", "page", "trail", "found"]) (sc := defScope s_Trail_after) (by decide +kernel)) (fun _ _ _ _ _ => by exact (pg_name (i := 2) sc_Trail_after.nd rfl (.inl rfl))) (fun _ _ _ _ _ => by exact pts_nil) (fun _ _ _ _ _ => by exact (pe_call (ok_is_page T) (hr.mono (by decide)) (by rfl) T.ma_is_page_trails T.F_is_page.kp T.b_is_page .nil pass0 (pa_cons (pv 2) pa_nil)))) pa_nil))))
        · apply pss_one
          exact (L2N.ps_raise rfl (L2N.takes_of rfl rfl rfl rfl) (L2N.pmk_own PySem.F.excBase_ValueError T.x_InvalidPageError T.g_InvalidPageError T.k_InvalidPageError (raises_own T.b_InvalidPageError T.t_InvalidPageError) (by rfl)))
        · exact pss_nil
      apply pss_cons
      · exact (ps_par (i := 3) (j := 4) (by rfl) sc_Trail_after.nd rfl rfl (by decide) rfl rfl (pa_cons (pe_callTy (k_listOf (K := K) rfl) (by rfl) T.n_list (by decide +kernel) (pa_cons (pe_ix (k_ix_tup (K := K) rfl) (k_fld (K := K) rfl (pv 0) rfl) pe_int (fun _ _ => rfl)) pa_nil)) (pa_cons (pe_lst pa_nil) pa_nil)) (by rfl))
      apply pss_cons
      · apply ps_for (passes_of rfl) rfl
        · exact (k_pi_list (K := K) rfl (pv 1))
        · exact (pg_name (i := 2) sc_Trail_after.nd rfl (.inl rfl))
        · apply pss_cons
          · exact (ps_expr (k_bm (K := K) rfl (pe_bm PySem.F.plainAttrs_list PySem.F.slot_list_append PySem.F.type_list_append mt_append (pv 4) (pa_cons (pe_cmpR (k_notIn (K := K) rfl) (pv 2) (pv 3) (by rfl)) pa_nil))))
          apply pss_one
          exact (ps_set (i := 3) sc_Trail_after.nd rfl (.inl rfl) (pe_methF (K := K) rfl (pv 0) (ok_Trail_shortened T) (hr.mono (by decide)) T.b_Trail_shortened .nil (fun σ => passS0) (pa_cons (pe_call (ok_visited T) (hr.mono (by decide)) (by rfl) T.m_visited T.F_visited.kp T.b_visited .nil pass0 (pa_cons (pv 3) (pa_cons (pv 2) pa_nil))) pa_nil)))
      apply pss_one
      exact (ps_ret (pe_tup (pa_cons (pv 3) (pa_cons (pv 4) pa_nil))))
    walk_at "sx"
    refine ⟨⟨_, ha⟩, fun D nD => ?_⟩
    refine lc_list (fun _ => true) (fun i => V.bl (inR 0 39 (xs.getD i .non))) ha nD (by omega) (fun u => rfl) (fun i v _ => tyes) (fun i v hv _ => ?_) (fun H1 e1 hD => ?_)
    · refine ev_call (vs := [v]) (ea_cons (ev_var rfl) ea_nil) (fun H3 e3 Q3 q3 E3 => ⟨v, rfl, hkd v (List.mem_of_getElem? hv) _ e3, ?_⟩)
      have eg : xs.getD i .non = v := by rw [List.getD_eq_getElem?_getD, hv]; rfl
      rw [eg] at q3
      exact q3 H3 (Ex.refl _)
    have hall : kept xs.length (fun _ => true) (fun i => V.bl (inR 0 39 (xs.getD i .non))) = (xs.map (inR 0 39)).map V.bl := by
      rw [kept_all]
      conv => rhs; rw [← dblV V.non xs]
      rw [List.map_map, List.map_map]
      rfl
    rw [hall] at hD
    refine allL (.inl (.inl hD)) ?_
    rw [List.all_map]
    refine ⟨_, rfl, ?_⟩
    have eid : xs.all (id ∘ inR 0 39) = xs.all (inR 0 39) := rfl
    rw [eid]
    cases hall2 : xs.all (inR 0 39) with
    | false =>
      rw [if_pos (by rfl)]
      exact k2 hall2 _ e1
    | true =>
      rw [if_neg (by decide)]
      obtain ⟨ns, rfl, hp⟩ := all_ints hall2
      rw [List.length_map] at hl
      have hx1 := hx.ex e1
      refine rd_now hx1 fun n hn => ?_
      obtain ⟨t0, v0, e0, h1, h2, h3, h4⟩ := hn
      refine ixT (.inl (.inl h1)) (atI_n (j := 0) rfl rfl) ?_
      refine ⟨t0, _, rfl, .inr (.inl (.inl h2)), fun r nr => ?_⟩
      have er := Ex.new nr (o := .lst (s.1.map V.int))
      refine ⟨by decide, fun f nf => ?_⟩
      have ef := Ex.new nf (o := .lst [])
      have e2 := (e1.trans er).trans ef
      have nrf : r ≠ f := ne_of_none (upd_same (a := r) (o := .lst (s.1.map V.int))) nf
      have hr : (upd (upd H1 r (.lst (s.1.map V.int))) f (.lst [])) r = some (.lst (s.1.map V.int)) := ef _ _ upd_same
      have hf : (upd (upd H1 r (.lst (s.1.map V.int))) f (.lst [])) f = some (.lst []) := upd_same
      have nf1 : H f = none := fresh_back (e1.trans er) nf
      have nr1 : H r = none := fresh_back e1 nr
      refine ⟨_, _, ⟨rfl, rfl⟩, ⟨_, ex_l e2 ha⟩, ?_⟩
      have ha2 := ex_l e2 ha
      have hx2 := hx.ex e2
      generalize (upd (upd H1 r (.lst (s.1.map V.int))) f (.lst [])) = H2 at e2 hr hf hx2 ha2 ⊢
      have npf : p ≠ f := by
        obtain ⟨ys, hy⟩ := hx.pst
        exact ne_of_none hy nf1
      have keepA : ∀ {H3 : Hp}, Fx f H2 H3 → SqL K H3 a (ns.map V.int) := fun g => sqL_fx ha nf1 e2 g
      refine lg_list (xs := ns.map V.int) (JAf H H2 x a f (top k bd) s.1 ns) ⟨r, none, rfl, Fx.refl _ _, nr1, nrf, hr, hf⟩ (fun i σ' H' _ hP => by obtain ⟨_, _, _, g, _⟩ := hP; exact keepA g) (fun i v σ' H' hv hP => ?_) (fun σ' H' hP => ?_)
      · obtain ⟨r, l4, rfl, g, nr1, nrf, hr, hf⟩ := hP
        obtain ⟨q, hq, rfl⟩ := ints_at hv
        have hi := (List.getElem?_eq_some_iff.mp hq).1
        obtain ⟨nd2, pg2⟩ := plT_ok (b := top k bd) hnd hpg (hp.take i)
        have l40 := nodup_len 40 nd2 pg2
        have hlf : ((nwB (top k bd) s.1 ns).take i).length ≤ 5000 := by rw [List.length_take, nwB_len]; omega
        have hlf2 : ((nwB (top k bd) s.1 ns).take i).length = i := by rw [List.length_take, nwB_len]; omega
        walk_at "sx"
        refine ⟨tyL hf, ?_⟩
        refine ninL (.inl (.inl hr)) ?_
        refine appL hf (BC.sz_lt (by rw [List.length_map]; omega)) ?_
        have g1 := g.trans (Fx.put (H := H') (o := .lst (((nwB (top k bd) s.1 ns).take i).map V.bl ++ [V.bl (!decide (q ∈ plT (top k bd) s.1 (ns.take i)))])))
        have hr1 : (upd H' f (.lst (((nwB (top k bd) s.1 ns).take i).map V.bl ++ [V.bl (!decide (q ∈ plT (top k bd) s.1 (ns.take i)))]))) r = some (.lst ((plT (top k bd) s.1 (ns.take i)).map V.int)) := by rw [upd_ne nrf]; exact hr
        have hf1 : (upd H' f (.lst (((nwB (top k bd) s.1 ns).take i).map V.bl ++ [V.bl (!decide (q ∈ plT (top k bd) s.1 (ns.take i)))]))) f = some (.lst (((nwB (top k bd) s.1 ns).take (i + 1)).map V.bl)) := by
          rw [upd_same, nwB_snoc hq, List.map_append]
          simp
        generalize (upd H' f (.lst (((nwB (top k bd) s.1 ns).take i).map V.bl ++ [V.bl (!decide (q ∈ plT (top k bd) s.1 (ns.take i)))]))) = H3 at g1 hr1 hf1 ⊢
        have hx3 : LivAt T H3 k bd x p s ps := hx2.fx (by assumption) npf g1
        obtain ⟨dx, n3, y1, y2, y3⟩ := id hx3
        walk_at "sx"
        refine ⟨_, _, _, y1, fl_no _ _ _ _ (by decide +kernel) (by decide +kernel) (by decide +kernel), (knd T k).cl, ?_⟩
        have fin : ∀ (u : Addr) (H4 : Hp), H3 u = none → Ex H3 H4 → H4 u = some (.lst ((stp (top k bd) (plT (top k bd) s.1 (ns.take i)) q).map V.int)) → JAf H H2 x a f (top k bd) s.1 ns (i + 1) [some (.ref x), some (.ref a), some (.int q), some (.ref u), some (.ref f)] H4 := fun u H4 nu e4 hu => by
          have nuf : u ≠ f := fun e => by rw [e, hf1] at nu; cases nu
          exact ⟨u, _, rfl, g1.trans (Fx.of e4), fresh_back e2 (fx_none g1 nu nuf), nuf, by rw [hu, plT_snoc hq], e4 _ _ hf1⟩
        have v40 := nodup_len 40 (vis_nodup (p := q) nd2) (vis_pg pg2 (hp.at hq).1 (hp.at hq).2)
        cases hk : isSh k with
        | false =>
          have eb : top k bd = 40 := by unfold top; rw [hk]; rfl
          refine ⟨T.m_Trail_shortened _ (kcl_mem T k), ?_⟩
          refine ⟨r, _, q, rfl, hr1, by omega, fun u H4 nu e4 hu => ?_⟩
          refine ⟨x, u, rfl, ?_⟩
          refine fin u H4 nu e4 ?_
          rw [hu]
          unfold stp
          rw [if_neg (by omega)]
        | true => cases hk
      · obtain ⟨r, l4, rfl, g, nr1, nrf, hr, hf⟩ := hP
        rw [List.length_map, List.take_of_length_le (Nat.le_refl _)] at hr
        rw [List.length_map, List.take_of_length_le (by rw [nwB_len]; exact Nat.le_refl _)] at hf
        walk_at "sx"
        refine ⟨sz_ok (by omega), fun t nt => ?_⟩
        have et := Ex.new nt (o := .tup [V.ref r, V.ref f])
        have e3 : Ex H H' := fun b o h => g b o (ne_of_none h nf1) (e2 b o h)
        exact k1 ns rfl hp t r f _ (fresh_back e3 nt) nr1 nf1 (e3.trans et) upd_same (et _ _ hr) (et _ _ hf)
end
end LW

set_option Elab.async false
set_option linter.all false
set_option maxRecDepth 100000
set_option maxHeartbeats 4000000
namespace LW
open PySem PySem.Spec PyProof.Rows L2 BC Evl TR EF L2.DX SUX
local macro_rules | `(tactic| walk_at "sx") => `(tactic| try simp only [x_callV, x_lcV, x_callKS, BC.x_gtupV, x_methF, x_methF2, x_methR, x_propF, SUX.x_sup1, x_sortSetB, x_lenSetA, x_mulS, x_callS, x_makeS, x_makeKS, x_seq, x_next, x_brk, x_cnt, x_nev, x_ret, x_retN, x_drop, x_ifS, x_asg, x_gn, x_gsub, x_par, x_par3, x_aug, x_for, x_lc, x_rng1, x_rng2, x_rng3, x_ilist, x_itup, x_ienum, x_izip, x_izipA, x_istr, x_var, x_c, x_op, x_un, x_test, x_b, x_chain, x_and, x_or, x_not, x_andV, x_orV, x_notV, x_ife, x_nil, x_cons, x_lst, x_tup, x_cb, x_call, x_callK, x_bm, x_bm0, x_tru, x_sl, x_nopart, x_part, x_revL, x_I0, x_I, x_U, x_ip, x_ipC, x_eqI, x_neI, x_eqB, x_neB, x_eqS, x_neS, x_isB, x_isNB, x_lrg, x_gall, x_lenSet, x_sortSet, x_rg1, x_rg2, x_dnewK, x_dnewT, x_dget, x_dget1, x_dget2, x_din, x_dnotin, x_dput, x_ikeys, x_fld, x_sfld, x_prop, x_meth, x_make, x_dc, x_callO, x_callOK,
  L2.start, List.map_cons, List.map_nil, List.length_cons, List.length_nil, Nat.reduceAdd, Nat.reduceSub, Nat.sub_self, Nat.zero_add, List.replicate, List.replicate_succ, List.replicate_zero, List.append_nil, List.cons_append, List.nil_append, List.set_cons_zero, List.set_cons_succ, List.getElem?_cons_zero, List.getElem?_cons_succ, Option.some.injEq, V.int.injEq, V.bl.injEq, V.ref.injEq, V.str.injEq, List.cons.injEq, and_true, true_and, exists_eq_left', exists_eq_left, exists_and_left, exists_eq, if_true, if_false, ite_true, ite_false, Bool.true_eq_false, Bool.false_eq_true, reduceIte, reduceCtorEq, Bool.not_true, Bool.not_false, decide_true, decide_false, decide_eq_true_eq, Bool.and_true, Bool.true_and, Bool.and_self, Bool.and_false, Bool.false_and, Bool.or_self, Bool.or_false, Bool.false_or, Bool.or_true, Bool.true_or, eq_self])
section
variable {P : Program} {w : World} {K : PySem.W.Frag} {mg : Str → Option Value} {base : Heap}
/-- kept but for the object and its past -/
def Fr2 (x p : Addr) (H H' : Hp) : Prop := ∀ b o, b ≠ x → b ≠ p → H b = some o → H' b = some o
theorem Fr2.of {x p : Addr} {H H' : Hp} (e : Ex H H') : Fr2 x p H H' := fun b o _ _ h => e b o h
theorem Fr2.trans {x p : Addr} {H H1 H2 : Hp} (a : Fr2 x p H H1) (b : Fr2 x p H1 H2) : Fr2 x p H H2 := fun c o n m h => b c o n m (a c o n m h)
theorem Fr2.l {x p a : Addr} {H H' : Hp} {xs : List V} (f : Fr2 x p H H') (n1 : a ≠ x) (n2 : a ≠ p) (h : SqL K H a xs) : SqL K H' a xs := by
  rcases h with h | h
  · rcases h with h | ⟨o, h⟩
    · exact .inl (.inl (f _ _ n1 n2 h))
    · exact .inl (.inr ⟨o, f _ _ n1 n2 h⟩)
  · exact .inr h
theorem make_ex {C : Addr} {H H' : Hp} {x dx : Addr} {o1 o2 : HO} (nx : H x = none) (ndx : H dx = none) (h : ∀ b o, (upd (upd H dx o1) x o2) b = some o → b ≠ x → H' b = some o) : Ex H H' := fun b o e => by
  have nb : b ≠ x := ne_of_none e nx
  refine h b o ?_ nb
  rw [upd_ne nb, upd_ne (ne_of_none e ndx)]
  exact e
theorem eqv_nilT (ns : List Int) : PyData.eqv (.tuple (ns.map PyData.int)) (.tuple []) = decide (ns = []) := by
  cases ns with
  | nil => rfl
  | cons a r => simp [PyData.eqv, PyData.eqvAll]
theorem neNilT {H : Hp} {Q : VK} {a b : Addr} {ns : List Int} (h : SqT K H a (ns.map V.int)) (g : SqT K H b []) (q : Q (.bl (!decide (ns = []))) H) : rNeD K (.ref a) (.ref b) H Q :=
  ⟨.tuple (ns.map PyData.int), .tuple [], .tup h (dp_ints ns), .tup g .nil, by
    have h := shp_ints ns
    simp only [SeqAt.shaped, PyData.canLay0, PyData.depth] at h ⊢
    exact h, rfl, by rw [eqv_nilT]; exact q⟩
theorem keys_exs {row : List Int} (hp : Pg 40 row) {ys : List Int} (pm : ys.Perm ((foldP [] row).map (·.1))) (srt : ys.Pairwise (· ≤ ·)) : ys = (exs row).map (·.1) := by
  have nd0 := foldP_nodup row [] List.nodup_nil
  have nd : ys.Nodup := pm.nodup_iff.mpr nd0
  refine ints_uniq ?_ ?_ fun q => ?_
  · exact (srt.and nd).imp fun {a b} h => by
      have := h.1
      have := h.2
      omega
  · rw [List.pairwise_map]
    exact exs_srt row
  · rw [pm.mem_iff, List.mem_map, List.mem_map]
    constructor
    · rintro ⟨⟨c, y⟩, h, rfl⟩
      have := (getI_mem nd0).mp h
      rw [foldP_all] at this
      exact ⟨(c, y), (mem_exs hp).mpr this, rfl⟩
    · rintro ⟨⟨c, y⟩, h, rfl⟩
      refine ⟨(c, y), (getI_mem nd0).mpr ?_, rfl⟩
      rw [foldP_all]
      exact (mem_exs hp).mp h
theorem keys_len {row : List Int} (hp : Pg 40 row) : ((foldP [] row).map (·.1)).length < 64 := by
  have nd0 := foldP_nodup row [] List.nodup_nil
  have : ((foldP [] row).map (·.1)).length ≤ 40 := nodup_len 40 nd0 fun x hx => by
    obtain ⟨⟨c, y⟩, h, rfl⟩ := List.mem_map.mp hx
    have := (getI_mem nd0).mp h
    rw [foldP_all] at this
    exact hp _ (mem_nx this).1
  omega
theorem first_at {row : List Int} (h : row ≠ []) : (row.map V.int)[0]? = some (firstV row) := by
  cases row with
  | nil => exact absurd rfl h
  | cons a r => rfl
def JCm (H5 : Hp) (D : Addr) (row : List Int) (i : Nat) (H' : Hp) : Prop := Ex H5 H' ∧ ∃ ts, H' D = some (.lst ((ts : List Addr).map V.ref)) ∧ ts.length = i ∧ ∀ (j : Nat) t, ts[j]? = some t → PairAt H' t ((exs row).getD j (0, 0))
def spComm (T : Txt P K mg) : Sp := fun vs H Q E => ∃ (x p a : Addr) (k bd n : Nat) (s : List Int × List Int) (ps : List (List Int × List Int)) (xs : List V), vs = [.ref x, .ref a] ∧ LivAt T H k bd x p s ps ∧ SOk n s ∧ n + xs.length ≤ 5000 ∧ ps.length ≤ 5000 ∧ SqL K H a xs ∧ (∀ v ∈ xs, ∀ H', Ex H H' → Kd K H' v) ∧
  (∀ ns : List Int, xs = ns.map V.int → Pg 40 ns → ∀ f H', H f = none → Fr2 x p H H' → H' f = some (.lst ((nwB (top k bd) s.1 ns).map V.bl)) → LivAt T H' k bd x p (plT (top k bd) s.1 ns, s.2 ++ ns) (ps ++ [s]) → Q (.ref f) H') ∧
  (xs.all (inR 0 39) = false → ∀ H', Ex H H' → E (.ref T.C_InvalidPageError) none H')
theorem ok_Trail_commit (T : Txt P K mg) : FnOk P w K mg base (L2N.CX P w) 7 T.f_Trail_commit T.fd_Trail_commit ["self", "pages"] (spComm T) := by
  refine okXN T.F_Trail_commit sc_Trail_commit (fun vs H Q E h => ?_) (fun cdv A outer s H vs Q E hr h => ?_)
  · obtain ⟨x, p, a, k, bd, n, s, ps, xs, rfl, _⟩ := h
    rfl
  · obtain ⟨x, p, a, k, bd, n, s, ps, xs, rfl, hx, so, hn, hps, ha, hkd, k1, k2⟩ := h
    apply Exists.intro
    apply And.intro
    · apply pss_cons
      · exact (ps_asg (pe_methF (K := K) rfl (pv 0) (ok_Trail_after T) (hr.mono (by decide)) T.b_Trail_after .nil (fun σ => L2N.passAt (L2N.takes_of rfl rfl rfl rfl) σ) (pa_cons (pv 1) pa_nil)) (k_tup (K := K) (n := 2) rfl rfl (pgs_cons (pg_name (i := 4) sc_Trail_commit.nd rfl (.inl rfl)) (pgs_cons (pg_name (i := 5) sc_Trail_commit.nd rfl (.inl rfl)) pgs_nil))))
      apply pss_cons
      · exact (ps_set (i := 2) sc_Trail_commit.nd rfl (.inl rfl) (pe_op (k_catA (K := K) rfl) (pe_ix (k_ix_tup (K := K) rfl) (k_fld (K := K) rfl (pv 0) rfl) pe_int (fun _ _ => rfl)) (pe_callTy (k_tupOf (K := K) rfl) (by rfl) T.n_tuple (by decide +kernel) (pa_cons (pv 1) pa_nil))))
      apply pss_cons
      · exact (ps_set (i := 3) sc_Trail_commit.nd rfl (.inl rfl) (pe_make T.M_Effect (ok_Effect___init T) (hr.mono (by decide)) (by rfl) T.g_Effect T.b_Effect___init .nil pass0 (pa_cons pe_non (pa_cons (pe_lst pa_nil) pa_nil))))
      apply pss_cons
      · apply ps_if
        · exact (pt_cmpR (k_neD (K := K) rfl hr.units) (pv 2) (pe_tup pa_nil) (by rfl))
        · apply pss_cons
          · exact (ps_set (i := 6) sc_Trail_commit.nd rfl (.inr rfl) (pe_call (ok_exits_in T) (hr.mono (by decide)) (by rfl) T.m_exits_in T.F_exits_in.kp T.b_exits_in .nil pass0 (pa_cons (pe_callTy (k_listOf (K := K) rfl) (by rfl) T.n_list (by decide +kernel) (pa_cons (pv 2) pa_nil)) pa_nil)))
          apply pss_one
          exact (ps_set (i := 3) sc_Trail_commit.nd rfl (.inl rfl) (pe_make T.M_Effect (ok_Effect___init T) (hr.mono (by decide)) (by rfl) T.g_Effect T.b_Effect___init .nil pass0 (pa_cons (pe_ix (k_ix_tup (K := K) rfl) (pv 2) pe_int (fun _ _ => rfl)) (pa_cons (pe_lc (own := [("page", 7)]) rfl sc_Trail_commit.nd (k_pi_list (K := K) rfl (pe_callB (cr_sortDI rfl) (by rfl) T.n_sorted (by decide +kernel) (pa_cons (pv 6) pa_nil))) (blkOk_by (own := [("page", 7)]) (N := ["self", "pages", "visits", "effect", "trail", "found", "exits", "page"]) (sc := defScope s_Trail_commit) (by decide +kernel)) (fun _ _ _ _ _ => by exact (pg_name (i := 7) sc_Trail_commit.nd rfl (.inl rfl))) (fun _ _ _ _ _ => by exact pts_nil) (fun _ _ _ _ _ => by exact (pe_tup (pa_cons (pv 7) (pa_cons (pe_dget (hu_of hr) (pv 6) (pv 7) (fun _ _ => rfl)) pa_nil))))) pa_nil))))
        · exact pss_nil
      apply pss_cons
      · exact (ps_expr (k_bm (K := K) rfl (pe_bm PySem.F.plainAttrs_list PySem.F.slot_list_append PySem.F.type_list_append mt_append (k_fld (K := K) rfl (pv 0) rfl) (pa_cons (k_fld (K := K) rfl (pv 0) rfl) pa_nil))))
      apply pss_cons
      · exact (k_sfld (K := K) rfl (pv 0) (pe_tup (pa_cons (pe_callTy (k_tupOf (K := K) rfl) (by rfl) T.n_tuple (by decide +kernel) (pa_cons (pv 4) pa_nil)) (pa_cons (pv 2) (pa_cons (pv 3) pa_nil)))) rfl)
      apply pss_one
      exact (ps_ret (pv 5))
    refine seq_cut (fun σ' H' => ∃ r f ns, σ' = [some (.ref x), some (.ref a), none, none, some (.ref r), some (.ref f), none, none] ∧ xs = (ns : List Int).map V.int ∧ Pg 40 ns ∧ H r = none ∧ H f = none ∧ Ex H H' ∧ H' r = some (.lst ((plT (top k bd) s.1 ns).map V.int)) ∧ H' f = some (.lst ((nwB (top k bd) s.1 ns).map V.bl))) (fun N hN => ?_) (fun σ1 H1 hC => ?_)
    · walk_at "sx"
      obtain ⟨dx, m, y1, y2, y3⟩ := id hx
      refine ⟨_, _, _, y1, fl_no _ _ _ _ (by decide +kernel) (by decide +kernel) (by decide +kernel), (knd T k).cl, T.m_Trail_after _ (kcl_mem T k), ?_⟩
      refine ⟨x, p, a, k, bd, s, ps, xs, rfl, hx, so.nd, so.pg, ha, by omega, hkd, fun ns en pn t r f H' nt nr nf e ht hr hf => ?_, fun c H' e => ?_⟩
      · refine g_two ht ?_
        exact hN _ _ ⟨r, f, ns, rfl, en, pn, nr, nf, e, hr, hf⟩
      · exact k2 c H' e
    obtain ⟨r, f, ns, rfl, rfl, hp, nr, nf, e1, hr, hf⟩ := hC
    rw [List.length_map] at hn
    have ln := so.ln
    have hx1 := hx.ex e1
    have ha1 := ex_l e1 ha
    refine seq_asg (fun v H' => ∃ v1, v = .ref v1 ∧ Ex H1 H' ∧ H' v1 = some (.tup ((s.2 ++ ns).map V.int))) (fun R hR => ?_) (fun v H2 hC => ?_)
    · walk_at "sx"
      refine rd_now hx1 fun m hm => ?_
      obtain ⟨t0, v0, e0, h1, h2, h3, h4⟩ := hm
      refine ixT (.inl (.inl h1)) (atI_n (j := 1) rfl rfl) ?_
      refine ⟨a, _, rfl, .inl ⟨ha1, fun z nz1 => ?_⟩⟩
      have ez := Ex.new nz1 (o := .tup (ns.map V.int))
      refine ⟨v0, z, _, _, rfl, rfl, .inl (.inl (ez _ _ h3)), .inl (.inl upd_same), sz_ok (by rw [List.length_map, List.length_map]; omega), fun c => ?_, fun c c2 => ?_, fun c c2 u nu => ?_⟩
      · refine hR _ _ ⟨z, rfl, ez, ?_⟩
        rw [upd_same, List.map_eq_nil_iff.mp c]
        rfl
      · refine hR _ _ ⟨v0, rfl, ez, ?_⟩
        rw [ez _ _ h3, List.map_eq_nil_iff.mp c2, List.append_nil]
      · refine hR _ _ ⟨u, rfl, ez.trans (Ex.new nu), ?_⟩
        rw [upd_same, List.map_append]
    obtain ⟨v1, rfl, e2, hv1⟩ := hC
    simp only [List.set_cons_zero, List.set_cons_succ]
    have E2 := e1.trans e2
    have hx2 := hx1.ex e2
    refine seq_asg (fun v H' => ∃ u, v = .ref u ∧ Ex H2 H' ∧ EffAt T.C_Effect H' u (firstV []) (exs [])) (fun R hR => ?_) (fun v H3 hC => ?_)
    · walk_at "sx"
      refine ⟨sz_ok (by omega), fun y ny => ?_⟩
      have ey := Ex.new ny (o := .lst [])
      intro u dx n1 n2 n3
      refine ⟨u, dx, y, [], [], _, rfl, begin_first [], upd_same, ⟨.inl (.inl ?_), rfl, fun i t h => by simp at h⟩, pg_nil _, fun H' hk he => ⟨rfl, ?_⟩⟩
      · rw [upd_ne (ne_of_none upd_same n1), upd_ne (ne_of_none upd_same n2)]
        exact upd_same
      · exact hR _ _ ⟨u, rfl, ey.trans (make_ex (C := T.C_Effect) n1 n2 hk), he⟩
    obtain ⟨u0, rfl, e3, hu0⟩ := hC
    simp only [List.set_cons_zero, List.set_cons_succ]
    have E3 := E2.trans e3
    have hx3 := hx2.ex e3
    have hv3 := e3 _ _ hv1
    have hp2 : Pg 40 (s.2 ++ ns) := fun z hz => (List.mem_append.mp hz).elim (so.pv z) (hp z)
    have l2 : (s.2 ++ ns).length ≤ 5000 := by rw [List.length_append]; omega
    refine seq_cut (fun σ' H' => ∃ u l6 l7, σ' = [some (.ref x), some (.ref a), some (.ref v1), some (.ref u), some (.ref r), some (.ref f), l6, l7] ∧ Ex H3 H' ∧ EffAt T.C_Effect H' u (firstV (s.2 ++ ns)) (exs (s.2 ++ ns))) (fun N hN => ?_) (fun σ4 H4 hC => ?_)
    · generalize hrow : s.2 ++ ns = row at hv3 hp2 l2 hN
      walk_at "sx"
      refine ⟨by decide, fun z nz1 => ?_⟩
      have ez := Ex.new nz1 (o := .tup [])
      refine neNilT (.inl (.inl (ez _ _ hv3))) (.inl (.inl upd_same)) ?_
      refine ⟨_, rfl, ?_⟩
      by_cases c0 : row = []
      · rw [decide_eq_true c0, if_neg (by decide)]
        subst c0
        exact hN _ _ ⟨u0, none, none, rfl, ez, hu0.ex ez⟩
      · rw [decide_eq_false c0, if_pos (by decide)]
        refine ⟨v1, _, rfl, .inr (.inl (.inl (ez _ _ hv3))), fun l nl => ?_⟩
        have el := Ex.new nl (o := .lst (row.map V.int))
        refine ⟨l, row, rfl, .inl (.inl upd_same), by omega, fun d H5 nd e5 hd => ?_⟩
        have E5 := (ez.trans el).trans e5
        refine ixT (.inl (.inl (E5 _ _ hv3))) (atI_n (j := 0) rfl (first_at c0)) ?_
        refine ⟨d, _, (foldP [] row).map (·.1), rfl, .inl hd, by rw [List.map_map, List.map_map]; rfl, keys_len hp2, fun ys q pm srt nq => ?_⟩
        have eys := keys_exs hp2 pm srt
        subst eys
        have eq1 := Ex.new nq (o := .lst (((exs row).map (·.1)).map V.int))
        have h40 := exs_len40 row
        refine ⟨q, rfl, ⟨_, .inl (.inl upd_same)⟩, fun D nD => ?_⟩
        have hq5 : (upd H5 q (.lst (((exs row).map (·.1)).map V.int))) q = some (.lst (((exs row).map (·.1)).map V.int)) := upd_same
        have hd5 := eq1 _ _ hd
        have E6 := E5.trans eq1
        generalize (upd H5 q (.lst (((exs row).map (·.1)).map V.int))) = H6 at hq5 hd5 E6 nD ⊢
        refine lc_listE (xs := ((exs row).map (·.1)).map V.int) (JCm H6 D row) ⟨Ex.new nD, [], upd_same, rfl, fun j t e => by simp at e⟩ (fun i H' _ hP => .inl (.inl (hP.1 _ _ hq5))) (fun i v H' hv hP => ?_) (fun H7 hP => ?_)
        · obtain ⟨e, ts, hD, lts, hts⟩ := hP
          obtain ⟨y, hy, rfl⟩ := ints_at hv
          rw [List.getElem?_map] at hy
          obtain ⟨⟨c, z⟩, hcz⟩ : ∃ g, (exs row)[i]? = some g := by
            cases hg : (exs row)[i]? with
            | none => rw [hg] at hy; cases hy
            | some g => exact ⟨g, rfl⟩
          rw [hcz] at hy
          have hy' : c = y := Option.some.inj hy
          subst hy'
          have hi := (List.getElem?_eq_some_iff.mp hcz).1
          have hnx := (mem_exs hp2).mp (List.mem_of_getElem? hcz)
          walk_at "sx"
          refine ⟨rfl, ?_⟩
          simp only [wipe, List.set_cons_zero, List.set_cons_succ, List.map_cons, List.map_nil, List.foldl_cons, List.foldl_nil]
          walk_at "sx"
          have hval : valV ((foldP [] row).map itK) (Sum.inl c) = some (.int z) := by
            rw [getI_val, foldP_all, hnx]
            rfl
          have hg := DGet.k (k := Sum.inl c) (e _ _ hd5)
          rw [hval] at hg
          refine ⟨_, hg, ?_⟩
          refine ⟨by decide, fun t nt => ?_⟩
          have et := Ex.new nt (o := .tup [V.int c, V.int z])
          have nDt : D ≠ t := ne_of_none hD nt
          refine ⟨_, et _ _ hD, BC.sz_lt (by rw [List.length_map]; omega), (e.trans et).mut nD, ts ++ [t], by rw [upd_same, List.map_append]; rfl, by rw [List.length_append, lts]; rfl, fun j t2 hj => ?_⟩
          by_cases c1 : j < ts.length
          · rw [List.getElem?_append_left c1] at hj
            have h := hts j t2 hj
            unfold BC.PairAt at h ⊢
            rw [upd_ne (ne_of h hD (by intro z; cases z)), et _ _ h]
          · have hj' := (List.getElem?_eq_some_iff.mp hj).1
            rw [List.length_append, List.length_singleton] at hj'
            have ej : j = ts.length := by omega
            subst ej
            rw [List.getElem?_append_right (Nat.le_refl _), Nat.sub_self] at hj
            obtain rfl : t = t2 := by simpa using hj
            unfold BC.PairAt
            rw [upd_ne nDt.symm, upd_same, lts, List.getD_eq_getElem?_getD, hcz]
            rfl
        · obtain ⟨e, ts, hD, lts, hts⟩ := hP
          rw [List.length_map, List.length_map] at lts
          intro u dx n1 n2 n3
          have es : Ex H7 (upd (upd H7 dx (.own u)) u (.ins T.C_Effect dx [])) := (Ex.new n2).mut n1
          refine ⟨u, dx, D, ts, row, firstV row, rfl, begin_first row, upd_same, ⟨.inl (.inl (es _ _ hD)), lts, fun i t hi => es _ _ (hts i t hi)⟩, hp2, fun H' hk he => ⟨rfl, ?_⟩⟩
          exact hN _ _ ⟨u, _, _, rfl, (E6.trans e).trans (make_ex (C := T.C_Effect) n1 n2 hk), he⟩
    obtain ⟨u, l6, l7, rfl, e4, hu⟩ := hC
    have E4 := E3.trans e4
    have hx4 := hx3.ex e4
    have hr4 := e4 _ _ (e3 _ _ (e2 _ _ hr))
    have hf4 := e4 _ _ (e3 _ _ (e2 _ _ hf))
    have hv4 := e4 _ _ hv3
    obtain ⟨dx, m, y1, y2, qs, y3, y4, y5⟩ := id hx4
    obtain ⟨xsp, hpp⟩ := hx.pst
    have npr : p ≠ r := ne_of_none hpp nr
    have npf : p ≠ f := ne_of_none hpp nf
    obtain ⟨Cx, dxx, fsx, hxx⟩ := hx.self
    have nxf : f ≠ x := (ne_of_none hxx nf).symm
    have nxp : x ≠ p := ne_of y1 y3 (by intro z; cases z)
    walk_at "sx"
    refine ⟨_, _, _, y1, (knd T k).cl, (knd T k).past, _, fl_past _ _ _ _, tyL y3, _, _, _, y1, (knd T k).cl, (knd T k).now, _, fl_now _ _ _ _, ?_⟩
    refine appL y3 (BC.sz_lt (by rw [List.length_map, y4]; omega)) ?_
    have f5 : Fx p H4 (upd H4 p (.lst (qs.map V.ref ++ [V.ref m]))) := Fx.put
    have hp5 : (upd H4 p (.lst (qs.map V.ref ++ [V.ref m]))) p = some (.lst (qs.map V.ref ++ [V.ref m])) := upd_same
    have kp5 : Kp T.C_Effect H4 (upd H4 p (.lst (qs.map V.ref ++ [V.ref m]))) := Kp.fx y3 f5
    generalize (upd H4 p (.lst (qs.map V.ref ++ [V.ref m]))) = H5 at f5 hp5 kp5 ⊢
    refine ⟨r, _, rfl, .inl ⟨.inl (.inl (f5 _ _ npr.symm hr4)), fun t nt => ?_⟩⟩
    have et := Ex.new nt (o := .tup ((plT (top k bd) s.1 ns).map V.int))
    refine ⟨by decide, fun m2 nm2 => ?_⟩
    have em := Ex.new nm2 (o := .tup [V.ref t, V.ref v1, V.ref u])
    have y15 := f5 _ _ nxp y1
    have y16 := em _ _ (et _ _ y15)
    have ht6 := em _ _ (upd_same (H := H5) (a := t) (o := .tup ((plT (top k bd) s.1 ns).map V.int)))
    have hm6 := upd_same (H := upd H5 t (.tup ((plT (top k bd) s.1 ns).map V.int))) (a := m2) (o := .tup [V.ref t, V.ref v1, V.ref u])
    have e56 := et.trans em
    generalize (upd (upd H5 t (.tup ((plT (top k bd) s.1 ns).map V.int))) m2 (.tup [V.ref t, V.ref v1, V.ref u])) = H6 at y16 ht6 hm6 e56 ⊢
    refine ⟨_, _, _, y16, (knd T k).cl, (knd T k).now, fl_len _ _ _ _, ?_⟩
    rw [fl_put]
    have kp6 : Kp T.C_Effect H6 (upd H6 x (.ins (kcl T k) dx (flds k m2 p bd))) := Kp.ins y16 (by rw [fl_now]; simp)
    have KP := (kp5.trans (Kp.of e56)).trans kp6
    have tp : ∀ {b : Addr} {zs : List V}, H6 b = some (.tup zs) → (upd H6 x (.ins (kcl T k) dx (flds k m2 p bd))) b = some (.tup zs) := fun h => kp6 _ _ h (by intro xs z; cases z) (by intro C dx fs z; cases z)
    have fr : Fr2 x p H (upd H6 x (.ins (kcl T k) dx (flds k m2 p bd))) := fun b o nx np h => by
      rw [upd_ne nx]
      exact e56 _ _ (f5 _ _ np (E4 _ _ h))
    refine k1 ns rfl hp f _ nf fr ?_ ⟨dx, m2, upd_same, ⟨t, v1, u, tp hm6, tp ht6, ?_, hu.kp KP⟩, ⟨qs ++ [m], ?_, ?_, fun i q st hi hs => ?_⟩⟩
    · rw [upd_ne nxf]
      exact e56 _ _ (f5 _ _ npf.symm hf4)
    · exact KP _ _ hv4 (by intro xs z; cases z) (by intro C dx fs z; cases z)
    · rw [upd_ne nxp.symm, List.map_append]
      exact e56 _ _ hp5
    · rw [List.length_append, List.length_append, y4]; rfl
    · by_cases c : i < qs.length
      · rw [List.getElem?_append_left c] at hi
        rw [List.getElem?_append_left (by omega)] at hs
        exact (y5 i q st hi hs).kp KP
      · have hi' := (List.getElem?_eq_some_iff.mp hi).1
        rw [List.length_append, List.length_singleton] at hi'
        have ei : i = qs.length := by omega
        rw [ei, List.getElem?_append_right (Nat.le_refl _), Nat.sub_self] at hi
        rw [ei, y4, List.getElem?_append_right (Nat.le_refl _), Nat.sub_self] at hs
        obtain rfl : m = q := by simpa using hi
        obtain rfl : s = st := by simpa using hs
        exact y2.kp KP
end
end LW

set_option Elab.async false
set_option linter.all false
set_option maxRecDepth 100000
set_option maxHeartbeats 4000000
namespace LW
open PySem PySem.Spec PyProof.Rows L2 BC Evl TR EF L2.DX SUX
local macro_rules | `(tactic| walk_at "sx") => `(tactic| try simp only [x_callV, x_lcV, x_callKS, BC.x_gtupV, x_methF, x_methF2, x_methR, x_propF, SUX.x_sup1, x_sortSetB, x_lenSetA, x_mulS, x_callS, x_makeS, x_makeKS, x_seq, x_next, x_brk, x_cnt, x_nev, x_ret, x_retN, x_drop, x_ifS, x_asg, x_gn, x_gsub, x_par, x_par3, x_aug, x_for, x_lc, x_rng1, x_rng2, x_rng3, x_ilist, x_itup, x_ienum, x_izip, x_izipA, x_istr, x_var, x_c, x_op, x_un, x_test, x_b, x_chain, x_and, x_or, x_not, x_andV, x_orV, x_notV, x_ife, x_nil, x_cons, x_lst, x_tup, x_cb, x_call, x_callK, x_bm, x_bm0, x_tru, x_sl, x_nopart, x_part, x_revL, x_I0, x_I, x_U, x_ip, x_ipC, x_eqI, x_neI, x_eqB, x_neB, x_eqS, x_neS, x_isB, x_isNB, x_lrg, x_gall, x_lenSet, x_sortSet, x_rg1, x_rg2, x_dnewK, x_dnewT, x_dget, x_dget1, x_dget2, x_din, x_dnotin, x_dput, x_ikeys, x_fld, x_sfld, x_prop, x_meth, x_make, x_dc, x_callO, x_callOK,
  L2.start, List.map_cons, List.map_nil, List.length_cons, List.length_nil, Nat.reduceAdd, Nat.reduceSub, Nat.sub_self, Nat.zero_add, List.replicate, List.replicate_succ, List.replicate_zero, List.append_nil, List.cons_append, List.nil_append, List.set_cons_zero, List.set_cons_succ, List.getElem?_cons_zero, List.getElem?_cons_succ, Option.some.injEq, V.int.injEq, V.bl.injEq, V.ref.injEq, V.str.injEq, List.cons.injEq, and_true, true_and, exists_eq_left', exists_eq_left, exists_and_left, exists_eq, if_true, if_false, ite_true, ite_false, Bool.true_eq_false, Bool.false_eq_true, reduceIte, reduceCtorEq, Bool.not_true, Bool.not_false, decide_true, decide_false, decide_eq_true_eq, Bool.and_true, Bool.true_and, Bool.and_self, Bool.and_false, Bool.false_and, Bool.or_self, Bool.or_false, Bool.false_or, Bool.or_true, Bool.true_or, eq_self])
section
variable {P : Program} {w : World} {K : PySem.W.Frag} {mg : Str → Option Value} {base : Heap}
def spVst (T : Txt P K mg) : Sp := fun vs H Q E => ∃ (x p a : Addr) (k bd n : Nat) (s : List Int × List Int) (ps : List (List Int × List Int)) (xs : List V), vs = [.ref x, .ref a] ∧ LivAt T H k bd x p s ps ∧ SOk n s ∧ n + xs.length ≤ 5000 ∧ ps.length ≤ 5000 ∧ H a = some (.tup xs) ∧ (∀ v ∈ xs, ∀ H', Ex H H' → Kd K H' v) ∧
  (∀ ns : List Int, xs = ns.map V.int → Pg 40 ns → ∀ f H', H f = none → Fr2 x p H H' → H' f = some (.lst ((nwB (top k bd) s.1 ns).map V.bl)) → LivAt T H' k bd x p (plT (top k bd) s.1 ns, s.2 ++ ns) (ps ++ [s]) → Q (.ref f) H') ∧
  (xs.all (inR 0 39) = false → ∀ H', Ex H H' → E (.ref T.C_InvalidPageError) none H')
theorem ok_Trail_visit (T : Txt P K mg) : FnR P w K mg base (L2N.CX P w) 9 T.f_Trail_visit (spStar 1 (spVst T)) := by
  refine starOk T.F_Trail_visit sc_Trail_visit cxUpN (fun kV doc pm an cdv ct => StX.bind_star1 (B := fun vs => bindArgs (PySem.W.fnOf "visit" "Trail.visit" (defArgs s_Trail_visit) (defBody s_Trail_visit) (defScope s_Trail_visit) .none kV doc pm an cdv ct) ⟨vs, []⟩) (fun _ => rfl) (fun _ _ _ => rfl)) (fun cdv A outer s H vs Q E hr h => ?_)
  · obtain ⟨x, p, a, k, bd, n, s, ps, xs, rfl, hx, so, hn, hps, ha, hkd, k1, k2⟩ := h
    apply Exists.intro
    apply And.intro
    · apply pss_one
      exact (ps_ret (pe_methF (K := K) rfl (pv 0) (ok_Trail_commit T) (hr.mono (by decide)) T.b_Trail_commit .nil (fun σ => L2N.passAt (L2N.takes_of rfl rfl rfl rfl) σ) (pa_cons (pe_callTy (k_listOf (K := K) rfl) (by rfl) T.n_list (by decide +kernel) (pa_cons (pv 1) pa_nil)) pa_nil)))
    walk_at "sx"
    obtain ⟨dx, m, y1, y2, y3⟩ := id hx
    refine ⟨_, _, _, y1, fl_no _ _ _ _ (by decide +kernel) (by decide +kernel) (by decide +kernel), (knd T k).cl, T.m_Trail_commit _ (kcl_mem T k), ?_⟩
    refine ⟨a, _, rfl, .inr (.inl (.inl ha)), fun l nl => ?_⟩
    have el := Ex.new nl (o := .lst xs)
    refine ⟨x, p, l, k, bd, n, s, ps, xs, rfl, hx.ex el, so, hn, hps, .inl (.inl upd_same), fun v hv H' e => hkd v hv H' (el.trans e), fun ns en pn f H' nf fr hf hl => ?_, fun c H' e => k2 c H' (el.trans e)⟩
    exact k1 ns en pn f H' (fresh_back el nf) ((Fr2.of el).trans fr) hf hl
def spUndo (T : Txt P K mg) : Sp := fun vs H Q E => ∃ (x p : Addr) (k bd : Nat) (s : List Int × List Int) (ps : List (List Int × List Int)), vs = [.ref x] ∧ LivAt T H k bd x p s ps ∧
  (∀ ps0 s0, ps = ps0 ++ [s0] → ∀ H', Fr2 x p H H' → LivAt T H' k bd x p s0 ps0 → Q .non H') ∧ (ps = [] → ∀ H', Ex H H' → E (.ref T.C_EmptyHistoryError) none H')
theorem ok_Trail_undo (T : Txt P K mg) : FnOk P w K mg base (L2N.CX P w) 1 T.f_Trail_undo T.fd_Trail_undo ["self"] (spUndo T) := by
  refine okXN T.F_Trail_undo sc_Trail_undo (fun vs H Q E h => ?_) (fun cdv A outer s H vs Q E hr h => ?_)
  · obtain ⟨x, p, k, bd, s, ps, rfl, _⟩ := h
    rfl
  · obtain ⟨x, p, k, bd, s, ps, rfl, hx, k1, k2⟩ := h
    apply Exists.intro
    apply And.intro
    · apply pss_cons
      · apply ps_if
        · exact (pt_cmpR (k_eqNil (K := K) rfl hr.units) (k_fld (K := K) rfl (pv 0) rfl) (pe_lst pa_nil) (by rfl))
        · apply pss_one
          exact (L2N.ps_raise rfl (L2N.takes_of rfl rfl rfl rfl) (L2N.pmk_own PySem.F.excBase_ValueError T.x_EmptyHistoryError T.g_EmptyHistoryError T.k_EmptyHistoryError (raises_own T.b_EmptyHistoryError T.t_EmptyHistoryError) (by rfl)))
        · exact pss_nil
      apply pss_one
      exact (k_sfld (K := K) rfl (pv 0) (k_bm0 (K := K) rfl (pe_bm0 PySem.F.plainAttrs_list PySem.F.slot_list_pop PySem.F.type_list_pop mt_pop (k_fld (K := K) rfl (pv 0) rfl))) rfl)
    obtain ⟨dx, m, y1, y2, qs, y3, y4, y5⟩ := id hx
    walk_at "sx"
    refine ⟨_, _, _, y1, (knd T k).cl, (knd T k).past, _, fl_past _ _ _ _, ?_⟩
    refine ⟨by decide, fun z nz1 => ?_⟩
    have ez := Ex.new nz1 (o := .lst [])
    refine eqNil (.inl (.inl (ez _ _ y3))) (.inl (.inl upd_same)) ?_
    refine ⟨_, rfl, ?_⟩
    by_cases c : ps = []
    · have cq : qs = [] := by
        rw [c] at y4
        exact List.length_eq_zero_iff.mp y4
      rw [decide_eq_true (by rw [cq]; rfl), if_pos rfl]
      exact k2 c _ ez
    · have cq : qs ≠ [] := fun e => c (List.length_eq_zero_iff.mp (by rw [← y4, e]; rfl))
      rw [decide_eq_false (fun e => cq (List.map_eq_nil_iff.mp e)), if_neg (by decide)]
      obtain ⟨ps0, s0, rfl⟩ : ∃ ps0 s0, ps = ps0 ++ [s0] := ⟨_, _, (List.dropLast_concat_getLast c).symm⟩
      obtain ⟨qs0, q0, rfl⟩ : ∃ qs0 q0, qs = qs0 ++ [q0] := ⟨_, _, (List.dropLast_concat_getLast cq).symm⟩
      have lq : qs0.length = ps0.length := by
        rw [List.length_append, List.length_append] at y4
        simpa using y4
      have hx1 := hx.ex ez
      refine ⟨_, _, _, ez _ _ y1, (knd T k).cl, (knd T k).past, _, fl_past _ _ _ _, tyL (ez _ _ y3), ?_⟩
      refine ⟨_, _, .ref q0, rfl, rfl, ez _ _ y3, ?_, ?_⟩
      · rw [List.length_map, List.length_append, List.length_singleton, Nat.add_sub_cancel, List.map_append, List.getElem?_append_right (by rw [List.length_map]; exact Nat.le_refl _), List.length_map, Nat.sub_self]
        rfl
      · have dl : (List.map V.ref (qs0 ++ [q0])).dropLast = List.map V.ref qs0 := by rw [List.map_append]; exact List.dropLast_concat
        rw [dl]
        have y4' := ez _ _ y3
        have nxp : x ≠ p := ne_of y1 y3 (by intro z; cases z)
        have f5 : Fx p (upd H z (.lst [])) (upd (upd H z (.lst [])) p (.lst (List.map V.ref qs0))) := Fx.put
        have kp5 := Kp.fx (CE := T.C_Effect) y4' f5
        have y15 := f5 _ _ nxp (ez _ _ y1)
        have hp5 : (upd (upd H z (.lst [])) p (.lst (List.map V.ref qs0))) p = some (.lst (List.map V.ref qs0)) := upd_same
        generalize (upd (upd H z (.lst [])) p (.lst (List.map V.ref qs0))) = H5 at f5 hp5 kp5 y15 ⊢
        refine ⟨_, _, _, y15, (knd T k).cl, (knd T k).now, fl_len _ _ _ _, ?_⟩
        rw [fl_put]
        have kp6 : Kp T.C_Effect H5 (upd H5 x (.ins (kcl T k) dx (flds k q0 p bd))) := Kp.ins y15 (by rw [fl_now]; simp)
        have KP := (kp5.trans kp6)
        have fr : Fr2 x p H (upd H5 x (.ins (kcl T k) dx (flds k q0 p bd))) := fun b o nx np h => by
          rw [upd_ne nx]
          exact f5 _ _ np (ez _ _ h)
        have hq0 := y5 qs0.length q0 s0 (by rw [List.getElem?_append_right (Nat.le_refl _), Nat.sub_self]; rfl) (by rw [lq, List.getElem?_append_right (Nat.le_refl _), Nat.sub_self]; rfl)
        refine k1 ps0 s0 rfl _ fr ⟨dx, q0, upd_same, (hq0.ex ez).kp KP, qs0, ?_, lq, fun i q st hi hs => ?_⟩
        · rw [upd_ne nxp.symm]
          exact hp5
        · have hi' := (List.getElem?_eq_some_iff.mp hi).1
          refine ((y5 i q st ?_ ?_).ex ez).kp KP
          · rw [List.getElem?_append_left hi']
            exact hi
          · rw [List.getElem?_append_left (by omega)]
            exact hs
theorem NowAt.ups {CE : Addr} {H : Hp} {n x C dx : Addr} {fs : List (Str × V)} {o : HO} {s : List Int × List Int} (h : NowAt CE H n s) (hx : H x = some (.ins C dx fs)) (ne : fs.lookup ("begin_page" : Str) = none) : NowAt CE (upd H x o) n s := by
  have g : ∀ {a : Addr} {u : HO}, H a = some u → u ≠ .ins C dx fs → (upd H x o) a = some u := fun h n => by
    rw [upd_ne (ne_of h hx n)]
    exact h
  obtain ⟨t, v, f, h1, h2, h3, h4⟩ := h
  obtain ⟨dd, t2, d2, ts, g1, g2, g3, g4, g5⟩ := h4
  have n1 : ∀ xs : List V, HO.tup xs ≠ .ins C dx fs := fun xs z => by cases z
  refine ⟨t, v, f, g h1 (n1 _), g h2 (n1 _), g h3 (n1 _), dd, t2, d2, ts, g g1 (fun z => ?_), g g2 (n1 _), g3, fun i u hi => g (g4 i u hi) (n1 _), g g5 (by intro z; cases z)⟩
  cases z
  rw [List.lookup_cons_self] at ne
  cases ne
def spInitT (CE : Addr) (K : PySem.W.Frag) : Sp := fun vs H Q _ => ∃ (x C dx : Addr), vs = [.ref x] ∧ Knd K C ∧ H x = some (.ins C dx []) ∧ ∀ n p H', H p = none → (∀ b o, H b = some o → b ≠ x → H' b = some o) → H' x = some (.ins C dx [("now", .ref n), ("past", .ref p)]) → NowAt CE H' n ([], []) → H' p = some (.lst []) → Q .non H'
theorem ok_Trail___init (T : Txt P K mg) : FnOk P w K mg base CX0 7 T.f_Trail___init T.fd_Trail___init ["self"] (spInitT T.C_Effect K) := by
  refine T.F_Trail___init.ok sc_Trail___init (fun vs H Q E h => ?_) (fun cdv A outer s H vs Q E hr h => ?_)
  · obtain ⟨x, C, dx, rfl, _⟩ := h
    rfl
  · obtain ⟨x, C, dx, rfl, hk, hx, k⟩ := h
    apply Exists.intro
    apply And.intro
    · apply pss_cons
      · exact (k_sfld (K := K) rfl (pv 0) (pe_tup (pa_cons (pe_tup pa_nil) (pa_cons (pe_tup pa_nil) (pa_cons (pe_make T.M_Effect (ok_Effect___init T) (hr.mono (by decide)) (by rfl) T.g_Effect T.b_Effect___init .nil pass0 (pa_cons pe_non (pa_cons (pe_lst pa_nil) pa_nil))) pa_nil)))) rfl)
      apply pss_one
      exact (k_sfld (K := K) rfl (pv 0) (pe_lst pa_nil) rfl)
    walk_at "sx"
    refine ⟨by decide, fun a na => ⟨by decide, fun b nb => ⟨by decide, fun c nc => ?_⟩⟩⟩
    have ea := Ex.new na (o := .tup [])
    have eb := Ex.new nb (o := .tup [])
    have ec := Ex.new nc (o := .lst [])
    have ha := ec _ _ (eb _ _ (upd_same (H := H) (a := a) (o := .tup [])))
    have hb := ec _ _ (upd_same (H := upd H a (.tup [])) (a := b) (o := .tup []))
    have hc := upd_same (H := upd (upd H a (.tup [])) b (.tup [])) (a := c) (o := .lst [])
    have E1 := (ea.trans eb).trans ec
    have hx1 := E1 _ _ hx
    generalize (upd (upd (upd H a (.tup [])) b (.tup [])) c (.lst [])) = H1 at ha hb hc E1 hx1 ⊢
    intro u du n1 n2 n3
    refine ⟨u, du, c, [], [], _, rfl, begin_first [], upd_same, ⟨.inl (.inl ?_), rfl, fun i t h => by simp at h⟩, pg_nil _, fun H2 hk2 he => ⟨rfl, ?_⟩⟩
    · rw [upd_ne (ne_of_none hc n1), upd_ne (ne_of_none hc n2)]
      exact hc
    have E2 : Ex H1 H2 := make_ex (C := T.C_Effect) n1 n2 hk2
    refine ⟨by decide, fun m nm => ?_⟩
    have em := Ex.new nm (o := .tup [V.ref a, V.ref b, V.ref u])
    have hx2 := em _ _ (E2 _ _ hx1)
    refine ⟨_, _, _, hx2, hk.cl, hk.now, by decide, ?_⟩
    have e3 := (E1.trans E2).trans em
    have nw : NowAt T.C_Effect (upd H2 m (.tup [V.ref a, V.ref b, V.ref u])) m ([], []) := ⟨a, b, u, upd_same, em _ _ (E2 _ _ ha), em _ _ (E2 _ _ hb), he.ex em⟩
    generalize (upd H2 m (.tup [V.ref a, V.ref b, V.ref u])) = H3 at hx2 e3 nw ⊢
    refine ⟨by decide, fun p np => ?_⟩
    have ep := Ex.new np (o := .lst [])
    have hpp := upd_same (H := upd H3 x (.ins C dx (putF "now" (.ref m) []))) (a := p) (o := .lst [])
    have hx4 := ep _ _ (upd_same (H := H3) (a := x) (o := .ins C dx (putF "now" (.ref m) [])))
    have e34 : ∀ b o, H3 b = some o → b ≠ x → (upd (upd H3 x (.ins C dx (putF "now" (.ref m) []))) p (.lst [])) b = some o := fun b o h nb => ep _ _ (by rw [upd_ne nb]; exact h)
    have nw4 := (nw.ups (o := .ins C dx (putF "now" (.ref m) [])) hx2 rfl).ex ep
    have nxp : p ≠ x := (ne_of_none upd_same np).symm
    have n3p : H3 p = none := by
      rw [upd_ne nxp] at np
      exact np
    generalize (upd (upd H3 x (.ins C dx (putF "now" (.ref m) []))) p (.lst [])) = H4 at hpp hx4 e34 nw4 ⊢
    refine ⟨_, _, _, hx4, hk.cl, hk.past, (by decide : 1 < 1000), ?_⟩
    refine k m p _ (fresh_back e3 n3p) (fun b o h nb => ?_) upd_same (nw4.ups hx4 rfl) ?_
    · rw [upd_ne nb]
      exact e34 _ _ (e3 _ _ h) nb
    · rw [upd_ne nxp]
      exact hpp
end
end LW

set_option Elab.async false
set_option linter.all false
set_option maxRecDepth 100000
set_option maxHeartbeats 4000000
namespace LW
open PySem PySem.Spec PyProof.Rows L2 BC Evl TR EF L2.DX SUX
local macro_rules | `(tactic| walk_at "sx") => `(tactic| try simp only [x_callV, x_lcV, x_callKS, BC.x_gtupV, x_methF, x_methF2, x_methR, x_propF, SUX.x_sup1, x_sortSetB, x_lenSetA, x_mulS, x_callS, x_makeS, x_makeKS, x_seq, x_next, x_brk, x_cnt, x_nev, x_ret, x_retN, x_drop, x_ifS, x_asg, x_gn, x_gsub, x_par, x_par3, x_aug, x_for, x_lc, x_rng1, x_rng2, x_rng3, x_ilist, x_itup, x_ienum, x_izip, x_izipA, x_istr, x_var, x_c, x_op, x_un, x_test, x_b, x_chain, x_and, x_or, x_not, x_andV, x_orV, x_notV, x_ife, x_nil, x_cons, x_lst, x_tup, x_cb, x_call, x_callK, x_bm, x_bm0, x_tru, x_sl, x_nopart, x_part, x_revL, x_I0, x_I, x_U, x_ip, x_ipC, x_eqI, x_neI, x_eqB, x_neB, x_eqS, x_neS, x_isB, x_isNB, x_lrg, x_gall, x_lenSet, x_sortSet, x_rg1, x_rg2, x_dnewK, x_dnewT, x_dget, x_dget1, x_dget2, x_din, x_dnotin, x_dput, x_ikeys, x_fld, x_sfld, x_prop, x_meth, x_make, x_dc, x_callO, x_callOK,
  L2.start, List.map_cons, List.map_nil, List.length_cons, List.length_nil, Nat.reduceAdd, Nat.reduceSub, Nat.sub_self, Nat.zero_add, List.replicate, List.replicate_succ, List.replicate_zero, List.append_nil, List.cons_append, List.nil_append, List.set_cons_zero, List.set_cons_succ, List.getElem?_cons_zero, List.getElem?_cons_succ, Option.some.injEq, V.int.injEq, V.bl.injEq, V.ref.injEq, V.str.injEq, List.cons.injEq, and_true, true_and, exists_eq_left', exists_eq_left, exists_and_left, exists_eq, if_true, if_false, ite_true, ite_false, Bool.true_eq_false, Bool.false_eq_true, reduceIte, reduceCtorEq, Bool.not_true, Bool.not_false, decide_true, decide_false, decide_eq_true_eq, Bool.and_true, Bool.true_and, Bool.and_self, Bool.and_false, Bool.false_and, Bool.or_self, Bool.or_false, Bool.false_or, Bool.or_true, Bool.true_or, eq_self])
section
variable {P : Program} {w : World} {K : PySem.W.Frag} {mg : Str → Option Value} {base : Heap}
/-- the state of the draws -/
def BagW (H : Hp) (b : Addr) (c : Nat) : Prop := ∃ x0 x1 x2 : Int, H b = some (.lst [V.int x0, V.int x1, V.int x2]) ∧ 0 ≤ x1 ∧ x1 < 10 ^ 120 ∧ 0 ≤ x2 ∧ x2 ≤ c
theorem BagW.ex {H H' : Hp} {b : Addr} {c : Nat} (h : BagW H b c) (e : Ex H H') : BagW H' b c := by
  obtain ⟨x0, x1, x2, hb, r⟩ := h
  exact ⟨x0, x1, x2, e _ _ hb, r⟩
theorem BagW.mono {H : Hp} {b : Addr} {c d : Nat} (h : BagW H b c) (e : c ≤ d) : BagW H b d := by
  obtain ⟨x0, x1, x2, hb, h1, h2, h3, h4⟩ := h
  exact ⟨x0, x1, x2, hb, h1, h2, h3, by omega⟩
theorem BagW.is {H : Hp} {b : Addr} {c : Nat} (h : BagW H b c) : ∃ xs, H b = some (.lst xs) := by
  obtain ⟨x0, x1, x2, hb, _⟩ := h
  exact ⟨_, hb⟩
theorem BagW.kept {H H' : Hp} {b : Addr} {c : Nat} (h : BagW H b c) (e : ∀ o, H b = some o → H' b = some o) : BagW H' b c := by
  obtain ⟨x0, x1, x2, hb, r⟩ := h
  exact ⟨x0, x1, x2, e _ hb, r⟩
def spSrc : Sp := fun vs H Q _ => ∃ (n : Int) (k : Nat), vs = [.int n, .int k] ∧ k < 64 ∧ ∀ p H', H p = none → Ex H H' → BagW H' p 0 → Q (.ref p) H'
theorem ok_law_source (T : Txt P K mg) : FnOk P w K mg base CX0 1 T.f_law_source T.fd_law_source ["_law_cell", "_law_number"] spSrc := by
  refine T.F_law_source.ok sc_law_source (fun vs H Q E h => ?_) (fun cdv A outer s H vs Q E hr h => ?_)
  · obtain ⟨n, k, rfl, _⟩ := h
    rfl
  · obtain ⟨n, i, rfl, hi, k⟩ := h
    apply Exists.intro
    apply And.intro
    · apply pss_one
      exact (ps_ret (pe_lst (pa_cons (pe_callB (call_max2 rfl) (by rfl) T.n_max (by decide +kernel) (pa_cons pe_int (pa_cons (pe_op op_sub (pv 0) (pe_op op_powX pe_int pe_int)) pa_nil))) (pa_cons (pe_op op_add (pe_op op_add (pe_op op_powX (pe_op op_modX (pv 0) (pe_op op_add (pe_op op_powX pe_int pe_int) pe_int)) pe_int) (pe_op op_mulX pe_int (pv 1))) pe_int) (pa_cons pe_int pa_nil)))))
    walk_at "sx"
    have t18 : Int.toNat 18 = 18 := rfl
    have t38 : Int.toNat 38 = 38 := rfl
    have t3 : Int.toNat 3 = 3 := rfl
    rw [t18, t38, t3]
    have m0 : 0 ≤ n % (10 ^ 38 + 133) := Int.emod_nonneg _ (by decide)
    have m1 : n % (10 ^ 38 + 133) < 10 ^ 38 + 133 := Int.emod_lt_of_pos _ (by decide)
    have c3 : CPowX (n % (10 ^ 38 + 133)) 3 := ⟨by decide, by decide, Nat.lt_of_lt_of_le (log2_small (k := 150) (by decide) (by omega)) (by decide)⟩
    have q3 : 0 ≤ (n % (10 ^ 38 + 133)) ^ 3 ∧ (n % (10 ^ 38 + 133)) ^ 3 ≤ (10 ^ 38 + 133) ^ 3 := by
      obtain ⟨u, hu⟩ : ∃ u : Nat, n % (10 ^ 38 + 133) = (u : Int) := ⟨(n % (10 ^ 38 + 133)).toNat, (Int.toNat_of_nonneg m0).symm⟩
      rw [hu]
      have hu2 : u ≤ 10 ^ 38 + 133 := by omega
      have h3 := Nat.pow_le_pow_left hu2 3
      rw [show (u : Int) ^ 3 = ((u ^ 3 : Nat) : Int) from (Int.natCast_pow u 3).symm]
      omega
    obtain ⟨a3, b3⟩ := q3
    refine ⟨⟨by decide, by decide, by decide⟩, _, _, ⟨rfl, rfl⟩, ⟨by decide, by decide, by decide⟩, by decide, c3, .inl (.inl ⟨by omega, by omega⟩), sz_ok (by omega), fun p np => ?_⟩
    generalize hy : (n % (10 ^ 38 + 133)) ^ 3 = y at b3 a3
    exact k p _ np (Ex.new np) ⟨_, _, _, upd_same, by omega, by omega, by omega, by omega⟩
def spDrw : Sp := fun vs H Q _ => ∃ (b : Addr) (m c : Nat), vs = [.ref b, .int m] ∧ 0 < m ∧ m ≤ 1000 ∧ BagW H b c ∧ c ≤ 1000000 ∧ ∀ (r : Nat) H', r < m → Fx b H H' → BagW H' b (c + 1) → Q (.int r) H'
theorem ok_law_draw (T : Txt P K mg) : FnOk P w K mg base CX0 1 T.f_law_draw T.fd_law_draw ["_law_source_here", "_law_many"] spDrw := by
  refine T.F_law_draw.ok sc_law_draw (fun vs H Q E h => ?_) (fun cdv A outer s H vs Q E hr h => ?_)
  · obtain ⟨b, m, c, rfl, _⟩ := h
    rfl
  · obtain ⟨b, m, c, rfl, h1, h2, hB, hc, k⟩ := h
    obtain ⟨x0, x1, x2, hb, h3, h4, h5, h6⟩ := hB
    apply Exists.intro
    apply And.intro
    · apply pss_cons
      · apply ps_if
        · exact (pt_cmpR op_gt (pe_ix (k_ix_list (K := K) rfl) (pv 0) pe_int (fun _ _ => rfl)) pe_int (by rfl))
        · apply pss_cons
          · exact (ps_set (i := 2) sc_law_draw.nd rfl (.inl rfl) (pe_op op_modX (pe_ix (k_ix_list (K := K) rfl) (pv 0) pe_int (fun _ _ => rfl)) (pv 1)))
          apply pss_cons
          · exact (ps_asg (pe_op op_fdivX (pe_ix (k_ix_list (K := K) rfl) (pv 0) pe_int (fun _ _ => rfl)) (pv 1)) (pg_sub (pv 0) pe_int set_list))
          apply pss_one
          exact (ps_ret (pv 2))
        · exact pss_nil
      apply pss_cons
      · exact (ps_asg (pe_op op_add (pe_ix (k_ix_list (K := K) rfl) (pv 0) pe_int (fun _ _ => rfl)) pe_int) (pg_sub (pv 0) pe_int set_list))
      apply pss_cons
      · exact (ps_asg (pe_op op_modX (pe_op op_add (pe_op op_add (pe_op op_powX (pe_ix (k_ix_list (K := K) rfl) (pv 0) pe_int (fun _ _ => rfl)) pe_int) (pe_op op_mulX pe_int (pe_ix (k_ix_list (K := K) rfl) (pv 0) pe_int (fun _ _ => rfl)))) pe_int) (pe_op op_add (pe_op op_powX pe_int pe_int) pe_int)) (pg_sub (pv 0) pe_int set_list))
      apply pss_one
      exact (ps_ret (pe_op op_modX (pe_op op_fdivX (pe_ix (k_ix_list (K := K) rfl) (pv 0) pe_int (fun _ _ => rfl)) (pe_op op_powX pe_int pe_int)) (pv 1)))
    walk_at "sx"
    refine ixL (.inl (.inl hb)) (atI_n (j := 0) rfl rfl) ?_
    walk_at "sx"
    have mm : 0 < (m : Int) := by omega
    have hdm : ∀ i, CDivW i m := fun i => wide_div (b := 20) mm (by omega) (by omega) (by omega)
    have fin : ∀ (i : Int) H', Fx b H H' → BagW H' b (c + 1) → Q (.int (i % m)) H' := fun i H' f hB => by
      have r0 := Int.emod_nonneg i (show (m : Int) ≠ 0 by omega)
      have r1 := Int.emod_lt_of_pos i mm
      have q := k (i % m).toNat H' (by omega) f hB
      rw [Int.toNat_of_nonneg r0] at q
      exact q
    by_cases h0 : 0 < x0
    · simp only [h0, if_true]
      refine ixL (.inl (.inl hb)) (atI_n (j := 0) rfl rfl) ?_
      walk_at "sx"
      refine ⟨mm, ?_⟩
      refine ixL (.inl (.inl hb)) (atI_n (j := 0) rfl rfl) ?_
      walk_at "sx"
      refine ⟨hdm _, ?_⟩
      refine setL hb (ixN_n (j := 0) rfl (by simp)) ?_
      exact fin _ _ Fx.put ⟨_, _, _, upd_same, h3, h4, h5, by omega⟩
    · simp only [h0, if_false]
      refine ixL (.inl (.inl hb)) (atI_n (j := 2) rfl rfl) ?_
      walk_at "sx"
      refine setL hb (ixN_n (j := 2) rfl (by simp)) ?_
      have hb2 : (upd H b (.lst [V.int x0, V.int x1, V.int (x2 + 1)])) b = some (.lst [V.int x0, V.int x1, V.int (x2 + 1)]) := upd_same
      refine ixL (.inl (.inl hb2)) (atI_n (j := 1) rfl rfl) ?_
      walk_at "sx"
      have t3 : Int.toNat 3 = 3 := rfl
      have t33 : Int.toNat 33 = 33 := rfl
      have t8 : Int.toNat 8 = 8 := rfl
      rw [t33, t3]
      have c3 : CPowX x1 3 := ⟨by decide, by decide, Nat.lt_of_lt_of_le (log2_small (k := 420) (by decide) (by omega)) (by decide)⟩
      refine ⟨c3, ?_⟩
      refine ixL (.inl (.inl hb2)) (atI_n (j := 2) rfl rfl) ?_
      walk_at "sx"
      generalize hz : (x1 ^ 3 + 982451653 * (x2 + 1) + 5) % (10 ^ 33 + 61) = z
      have hz0 : 0 ≤ z := by rw [← hz]; exact Int.emod_nonneg _ (by decide)
      have hz1 : z < 10 ^ 33 + 61 := by rw [← hz]; exact Int.emod_lt_of_pos _ (by decide)
      refine ⟨.inl (.inl ⟨by omega, by omega⟩), ⟨by decide, by decide, by decide⟩, by decide, ?_⟩
      refine setL hb2 (ixN_n (j := 1) rfl (by simp)) ?_
      have hb3 : (upd (upd H b (.lst [V.int x0, V.int x1, V.int (x2 + 1)])) b (.lst [V.int x0, V.int z, V.int (x2 + 1)])) b = some (.lst [V.int x0, V.int z, V.int (x2 + 1)]) := upd_same
      refine ixL (.inl (.inl hb3)) (atI_n (j := 1) rfl rfl) ?_
      walk_at "sx"
      rw [t8]
      trace_state
      refine ⟨⟨by decide, by decide, by decide⟩, ⟨by decide, by decide⟩, mm, ?_⟩
      exact fin _ _ (Fx.put.trans Fx.put) ⟨_, _, _, upd_same, hz0, by omega, by omega, by omega⟩
def spCells (K : PySem.W.Frag) : Sp := fun vs H Q _ => ∃ (a : Addr) (ns : List Int), vs = [.ref a, .int 8] ∧ SqL K H a (ns.map V.int) ∧ ns.length < 64 ∧ ∀ p H' (xs : List Int), H p = none → Ex H H' → H' p = some (.lst (xs.map V.int)) → xs.length ≤ 9 → Q (.ref p) H'
theorem ok_law_cells (T : Txt P K mg) : FnOk P w K mg base CX0 1 T.f_law_cells T.fd_law_cells ["_law_script", "_law_many"] (spCells K) := by
  refine T.F_law_cells.ok sc_law_cells (fun vs H Q E h => ?_) (fun cdv A outer s H vs Q E hr h => ?_)
  · obtain ⟨a, ns, rfl, _⟩ := h
    rfl
  · obtain ⟨a, ns, rfl, ha, hl, k⟩ := h
    apply Exists.intro
    apply And.intro
    · apply pss_one
      exact (ps_ret (pe_op op_cat (pe_slice (k_sl_list (K := K) rfl) (pv 0) po_none (po_some (pv 1))) (pe_op op_rep (pe_lst (pa_cons pe_int pa_nil)) (pe_callTy call_int1 (by rfl) T.n_int (by decide +kernel) (pa_cons (pe_cmpR (k_eqD (K := K) rfl hr.units) (pv 0) (pe_lst pa_nil) (by rfl)) pa_nil)))))
    walk_at "sx"
    refine slL ha fun y ny => ?_
    obtain ⟨ms, hms, hml⟩ : ∃ ms : List Int, cutV (ns.map V.int) none (some 8) = ms.map V.int ∧ ms.length ≤ 8 := by
      refine ⟨ns.take 8, ?_, by rw [List.length_take]; omega⟩
      rw [List.map_take]
      unfold cutV
      rw [show (8 : Int) = ((8 : Nat) : Int) from rfl, HT.sIx_nat, HT.sIx_none, List.drop_zero, Nat.sub_zero, List.length_map]
      by_cases c : 8 ≤ ns.length
      · rw [Nat.min_eq_left c]
      · rw [Nat.min_eq_right (by omega), List.take_of_length_le (by rw [List.length_map]; exact Nat.le_refl _), List.take_of_length_le (by rw [List.length_map]; omega)]
    rw [hms]
    have ey := Ex.new ny (o := .lst (ms.map V.int))
    have hy0 := upd_same (H := H) (a := y) (o := .lst (ms.map V.int))
    have ha1 := ex_l ey ha
    generalize (upd H y (.lst (ms.map V.int))) = H1 at ey hy0 ha1 ⊢
    refine ⟨sz_ok (by omega), fun z nz1 => ⟨sz_ok (by omega), fun u nu => ?_⟩⟩
    have ez := Ex.new nz1 (o := .lst [V.int 0])
    have eu := Ex.new nu (o := .lst [])
    have hz := eu _ _ (upd_same (H := H1) (a := z) (o := .lst [V.int 0]))
    have hu := upd_same (H := upd H1 z (.lst [V.int 0])) (a := u) (o := .lst [])
    have ezu := ez.trans eu
    generalize (upd (upd H1 z (.lst [V.int 0])) u (.lst [])) = H2 at hz hu ezu ⊢
    refine eqInts (ms := []) (ex_l ezu ha1) (.inl (.inl hu)) ?_
    refine .inr ⟨_, rfl, ?_⟩
    obtain ⟨b, hb, hb1⟩ : ∃ b : Nat, (if decide (ns = []) = true then (1 : Int) else 0) = (b : Int) ∧ b ≤ 1 := by
      by_cases c : ns = []
      · exact ⟨1, by rw [if_pos (decide_eq_true c)]; rfl, by omega⟩
      · exact ⟨0, by rw [if_neg (by simpa using c)]; rfl, by omega⟩
    rw [hb]
    refine repE hz (by omega) (by simp; omega) fun q H3 nq e3 hq => ?_
    have E := ezu.trans e3
    rw [rep_one] at hq
    have er : List.replicate b (V.int 0) = (List.replicate b (0 : Int)).map V.int := by rw [List.map_replicate]
    rw [er] at hq
    refine catL (E _ _ hy0) hq (sz_ok (by simp; omega)) fun r nr => ?_
    exact k r _ (ms ++ List.replicate b (0 : Int)) (fresh_back (ey.trans E) nr) ((ey.trans E).trans (Ex.new nr)) (by rw [upd_same, List.map_append]) (by simp; omega)
end
end LW

set_option Elab.async false
set_option linter.all false
set_option maxRecDepth 100000
set_option maxHeartbeats 4000000
namespace LW
open PySem PySem.Spec PyProof.Rows L2 BC Evl TR EF L2.DX SUX
local macro_rules | `(tactic| walk_at "sx") => `(tactic| try simp only [x_callV, x_lcV, x_callKS, BC.x_gtupV, x_methF, x_methF2, x_methR, x_propF, SUX.x_sup1, x_sortSetB, x_lenSetA, x_mulS, x_callS, x_makeS, x_makeKS, x_seq, x_next, x_brk, x_cnt, x_nev, x_ret, x_retN, x_drop, x_ifS, x_asg, x_gn, x_gsub, x_par, x_par3, x_aug, x_for, x_lc, x_rng1, x_rng2, x_rng3, x_ilist, x_itup, x_ienum, x_izip, x_izipA, x_istr, x_var, x_c, x_op, x_un, x_test, x_b, x_chain, x_and, x_or, x_not, x_andV, x_orV, x_notV, x_ife, x_nil, x_cons, x_lst, x_tup, x_cb, x_call, x_callK, x_bm, x_bm0, x_tru, x_sl, x_nopart, x_part, x_revL, x_I0, x_I, x_U, x_ip, x_ipC, x_eqI, x_neI, x_eqB, x_neB, x_eqS, x_neS, x_isB, x_isNB, x_lrg, x_gall, x_lenSet, x_sortSet, x_rg1, x_rg2, x_dnewK, x_dnewT, x_dget, x_dget1, x_dget2, x_din, x_dnotin, x_dput, x_ikeys, x_fld, x_sfld, x_prop, x_meth, x_make, x_dc, x_callO, x_callOK,
  L2.start, List.map_cons, List.map_nil, List.length_cons, List.length_nil, Nat.reduceAdd, Nat.reduceSub, Nat.sub_self, Nat.zero_add, List.replicate, List.replicate_succ, List.replicate_zero, List.append_nil, List.cons_append, List.nil_append, List.set_cons_zero, List.set_cons_succ, List.getElem?_cons_zero, List.getElem?_cons_succ, Option.some.injEq, V.int.injEq, V.bl.injEq, V.ref.injEq, V.str.injEq, List.cons.injEq, and_true, true_and, exists_eq_left', exists_eq_left, exists_and_left, exists_eq, if_true, if_false, ite_true, ite_false, Bool.true_eq_false, Bool.false_eq_true, reduceIte, reduceCtorEq, Bool.not_true, Bool.not_false, decide_true, decide_false, decide_eq_true_eq, Bool.and_true, Bool.true_and, Bool.and_self, Bool.and_false, Bool.false_and, Bool.or_self, Bool.or_false, Bool.false_or, Bool.or_true, Bool.true_or, eq_self])
section
variable {P : Program} {w : World} {K : PySem.W.Frag} {mg : Str → Option Value} {base : Heap}
/-- lists and tuples of them, of numbers, bools and None, so deep -/
inductive Si : Nat → PyData → Prop
  | int (n : Nat) (i : Int) : Si n (.int i)
  | bl (n : Nat) (b : Bool) : Si n (.bool b)
  | non (n : Nat) : Si n .none
  | lst {n : Nat} {ds : List PyData} (hl : ds.length ≤ 100000) (h : ∀ d ∈ ds, Si n d) : Si (n + 1) (.list ds)
  | tup {n : Nat} {ds : List PyData} (hl : ds.length ≤ 100000) (h : ∀ d ∈ ds, Si n d) : Si (n + 1) (.tuple ds)
def spFalse : Sp := fun _ _ _ _ => False
def spEq (K : PySem.W.Frag) (n : Nat) : Sp := fun vs H Q _ => ∃ (x y : V) (d : PyData), vs = [x, y] ∧ Dp K H x d ∧ Dp K H y d ∧ Si n d ∧ ∀ H', Ex H H' → Q (.bl true) H'
theorem eq_base (T : Txt P K mg) : FnOk P w K mg base CX0 0 T.f_law_same T.fd_law_same ["_law_found", "_law_expected"] spFalse :=
  ⟨fun _ _ _ _ h => h.elim, fun _ _ _ _ _ _ _ _ _ _ _ _ _ h => h.elim⟩
theorem eq_step (T : Txt P K mg) {lv n : Nat} {sp0 : Sp} (hsp : n = 0 ∨ ∃ n', n = n' + 1 ∧ sp0 = spEq K n') (G : FnOk P w K mg base CX0 lv T.f_law_same T.fd_law_same ["_law_found", "_law_expected"] sp0) :
    FnOk P w K mg base CX0 (lv + 1) T.f_law_same T.fd_law_same ["_law_found", "_law_expected"] (spEq K n) := by
  refine T.F_law_same.ok sc_law_same (fun vs H Q E h => ?_) (fun cdv A outer s H vs Q E hr h => ?_)
  · obtain ⟨x, y, d, rfl, _⟩ := h
    rfl
  · obtain ⟨x, y, d, rfl, hx, hy, hs, k⟩ := h
    apply Exists.intro
    apply And.intro
    · apply pss_cons
      · apply ps_if
        · exact (pt_cmpR op_isN (pv 1) pe_non (by rfl))
        · apply pss_one
          exact (ps_ret (pe_cmpR op_isN (pv 0) pe_non (by rfl)))
        · exact pss_nil
      apply pss_cons
      · apply ps_if
        · exact (pt_val (pe_callB (k_isiT (K := K) rfl) (by rfl) T.n_isinstance (by decide +kernel) (pa_cons (pv 1) (pa_cons (pe_tup (pa_cons (pe_bltn (v := .ty "list") (by rfl) T.n_list (by decide +kernel) rfl) (pa_cons (pe_bltn (v := .ty "tuple") (by rfl) T.n_tuple (by decide +kernel) rfl) pa_nil))) pa_nil))))
        · apply pss_cons
          · apply ps_if
            · exact (PW.pt (pw_or (pt_not (pt_val (pe_callB (k_isiT (K := K) rfl) (by rfl) T.n_isinstance (by decide +kernel) (pa_cons (pv 0) (pa_cons (pe_tup (pa_cons (pe_bltn (v := .ty "list") (by rfl) T.n_list (by decide +kernel) rfl) (pa_cons (pe_bltn (v := .ty "tuple") (by rfl) T.n_tuple (by decide +kernel) rfl) pa_nil))) pa_nil))))) (pw_or1 (pt_cmpR op_ne (pe_callB (k_isi (K := K) rfl) (by rfl) T.n_isinstance (by decide +kernel) (pa_cons (pv 0) (pa_cons (pe_bltn (v := .ty "list") (by rfl) T.n_list (by decide +kernel) rfl) pa_nil))) (pe_callB (k_isi (K := K) rfl) (by rfl) T.n_isinstance (by decide +kernel) (pa_cons (pv 1) (pa_cons (pe_bltn (v := .ty "list") (by rfl) T.n_list (by decide +kernel) rfl) pa_nil))) (by rfl)))))
            · apply pss_one
              exact (ps_ret pe_bl)
            · exact pss_nil
          apply pss_cons
          · apply ps_if
            · exact (pt_cmpR op_ne (pe_callB (k_len (K := K) rfl) (by rfl) T.n_len PySem.boot_len (pa_cons (pv 0) pa_nil)) (pe_callB (k_len (K := K) rfl) (by rfl) T.n_len PySem.boot_len (pa_cons (pv 1) pa_nil)) (by rfl))
            · apply pss_one
              exact (ps_ret pe_bl)
            · exact pss_nil
          apply pss_one
          exact (ps_ret (pe_callB (k_all (K := K) rfl rfl) (by rfl) T.n_all (by decide +kernel) (pa_cons (pe_lc (own := [("_law_one", 2), ("_law_other", 3)]) rfl sc_law_same.nd (k_pi_zipA (K := K) rfl (by rfl) T.n_zip (pa_cons (pv 0) (pa_cons (pv 1) pa_nil))) (blkOk_by (own := [("_law_one", 2), ("_law_other", 3)]) (N := ["_law_found", "_law_expected", "_law_one", "_law_other"]) (sc := defScope s_law_same) (by decide +kernel)) (fun _ _ _ _ _ => by exact (k_tup (K := K) (n := 2) rfl rfl (pgs_cons (pg_name (i := 2) sc_law_same.nd rfl (.inl rfl)) (pgs_cons (pg_name (i := 3) sc_law_same.nd rfl (.inl rfl)) pgs_nil)))) (fun _ _ _ _ _ => by exact pts_nil) (fun _ _ _ _ _ => by exact (pe_call G hr (by rfl) T.m_law_same T.F_law_same.kp T.b_law_same .nil pass0 (pa_cons (pv 2) (pa_cons (pv 3) pa_nil))))) pa_nil)))
        · exact pss_nil
      apply pss_one
      exact (ps_ret (pe_and (pe_cmpR op_eq (pe_callB (k_isi (K := K) rfl) (by rfl) T.n_isinstance (by decide +kernel) (pa_cons (pv 0) (pa_cons (pe_bltn (v := .ty "bool") (by rfl) T.n_bool (by decide +kernel) rfl) pa_nil))) (pe_callB (k_isi (K := K) rfl) (by rfl) T.n_isinstance (by decide +kernel) (pa_cons (pv 1) (pa_cons (pe_bltn (v := .ty "bool") (by rfl) T.n_bool (by decide +kernel) rfl) pa_nil))) (by rfl)) (pe_one (pe_cmpR (k_eqD (K := K) rfl hr.units) (pv 0) (pv 1) (by rfl)))))
    walk_at "sx"
    cases hs with
    | non n =>
      cases hx; cases hy
      rw [if_pos rfl]
      exact k H (Ex.refl _)
    | int n i =>
      cases hx; cases hy
      rw [if_neg (by intro z; cases z)]
      refine ⟨sz_ok (by omega), fun p np => ?_⟩
      have e1 := Ex.new np (o := .tup [V.ty "list", V.ty "tuple"])
      refine isiT2 (b := false) (c := false) (.base (.int i)) upd_same (by decide +kernel) (by decide +kernel) ?_
      walk_at "sx"
      refine isi_x (b := false) (.base (.int i)) (by decide +kernel) (isi_x (b := false) (.base (.int i)) (by decide +kernel) ?_)
      walk_at "sx"
      refine ⟨.int i, .int i, .int i, .int i, rfl, rfl, ?_⟩
      rw [show (PyData.int i).eqv (PyData.int i) = true by simp [PyData.eqv]]
      exact k _ e1
    | bl n b =>
      cases hx; cases hy
      rw [if_neg (by intro z; cases z)]
      refine ⟨sz_ok (by omega), fun p np => ?_⟩
      have e1 := Ex.new np (o := .tup [V.ty "list", V.ty "tuple"])
      refine isiT2 (b := false) (c := false) (.base (.bl b)) upd_same (by decide +kernel) (by decide +kernel) ?_
      walk_at "sx"
      refine isi_x (b := true) (.base (.bl b)) (by decide +kernel) (isi_x (b := true) (.base (.bl b)) (by decide +kernel) ?_)
      walk_at "sx"
      refine ⟨.bool b, .bool b, .bl b, .bl b, rfl, rfl, ?_⟩
      rw [show (PyData.bool b).eqv (PyData.bool b) = true by simp [PyData.eqv]]
      exact k _ e1
    | @lst n' ds hl h =>
      obtain ⟨n2, en, rfl⟩ : ∃ n2, n' + 1 = n2 + 1 ∧ sp0 = spEq K n2 := by
        rcases hsp with q | ⟨n2, q1, q2⟩
        · omega
        · exact ⟨n2, q1, q2⟩
      obtain rfl : n' = n2 := by omega
      have nn : y ≠ V.non := by intro z; rw [z] at hy; cases hy
      rw [if_neg nn]
      refine ⟨sz_ok (by omega), fun p np => ?_⟩
      have e1 := Ex.new np (o := .tup [V.ty "list", V.ty "tuple"])
      have ty := tyx_d (ex_d e1 _ _ hy)
      simp only [tyn] at ty
      refine isiT2 (b := true) (c := false) ty upd_same (by decide +kernel) (by decide +kernel) ?_
      walk_at "sx"
      refine ⟨sz_ok (by omega), fun p2 np2 => ?_⟩
      have e2 := Ex.new np2 (o := .tup [V.ty "list", V.ty "tuple"])
      have hx2' := ex_d (e1.trans e2) _ _ hx
      have hy2' := ex_d (e1.trans e2) _ _ hy
      have tx2 := tyx_d hx2'
      have ty2 := tyx_d hy2'
      simp only [tyn] at tx2 ty2
      refine isiT2 (b := true) (c := false) tx2 upd_same (by decide +kernel) (by decide +kernel) ?_
      walk_at "sx"
      refine isi_x (b := true) tx2 (by decide +kernel) (isi_x (b := true) ty2 (by decide +kernel) ?_)
      walk_at "sx"
      cases hx2' with
      | lst hx3 hx2 =>
      cases hy2' with
      | lst hy3 hy2 =>
      have lx := dp_len hx2
      have ly := dp_len hy2
      refine lenL hx3 (lenL hy3 ?_)
      rw [lx, ly]
      walk_at "sx"
      refine ⟨_, _, ⟨rfl, rfl⟩, _, _, .inl ⟨hx3, hy3, fun D nD => ?_⟩⟩
      refine lc_zip (fun _ => true) (fun _ => V.bl true) hx3 hy3 (by omega) nD (by omega) (fun u v => rfl) (fun i u v _ _ => tyes) (fun i u v hu hv _ => ?_) (fun H2 e3 hD => ?_)
      · obtain ⟨d1, f1, g1⟩ := dp_at hx2 hu
        obtain ⟨d2, f2, g2⟩ := dp_at hy2 hv
        rw [f1] at f2
        cases f2
        refine ev_call (vs := [u, v]) (ea_cons (ev_var rfl) (ea_cons (ev_var rfl) ea_nil)) (fun H3 e3 Q3 q3 E3 => ?_)
        exact ⟨u, v, d1, rfl, ex_d e3 _ _ g1, ex_d e3 _ _ g2, h _ (List.mem_of_getElem? f1), q3⟩
      · rw [kept_const] at hD
        have e5 : List.replicate ds.length (V.bl true) = (List.replicate ds.length true).map V.bl := by rw [List.map_replicate]
        rw [lx, e5] at hD
        refine allL (.inl (.inl hD)) ?_
        rw [all_true]
        exact k _ ((e1.trans e2).trans e3)
    | @tup n' ds hl h =>
      obtain ⟨n2, en, rfl⟩ : ∃ n2, n' + 1 = n2 + 1 ∧ sp0 = spEq K n2 := by
        rcases hsp with q | ⟨n2, q1, q2⟩
        · omega
        · exact ⟨n2, q1, q2⟩
      obtain rfl : n' = n2 := by omega
      have nn : y ≠ V.non := by intro z; rw [z] at hy; cases hy
      rw [if_neg nn]
      refine ⟨sz_ok (by omega), fun p np => ?_⟩
      have e1 := Ex.new np (o := .tup [V.ty "list", V.ty "tuple"])
      have ty := tyx_d (ex_d e1 _ _ hy)
      simp only [tyn] at ty
      refine isiT2 (b := false) (c := true) ty upd_same (by decide +kernel) (by decide +kernel) ?_
      walk_at "sx"
      refine ⟨sz_ok (by omega), fun p2 np2 => ?_⟩
      have e2 := Ex.new np2 (o := .tup [V.ty "list", V.ty "tuple"])
      have hx2' := ex_d (e1.trans e2) _ _ hx
      have hy2' := ex_d (e1.trans e2) _ _ hy
      have tx2 := tyx_d hx2'
      have ty2 := tyx_d hy2'
      simp only [tyn] at tx2 ty2
      refine isiT2 (b := false) (c := true) tx2 upd_same (by decide +kernel) (by decide +kernel) ?_
      walk_at "sx"
      refine isi_x (b := false) tx2 (by decide +kernel) (isi_x (b := false) ty2 (by decide +kernel) ?_)
      walk_at "sx"
      cases hx2' with
      | tup hx3 hx2 =>
      cases hy2' with
      | tup hy3 hy2 =>
      have lx := dp_len hx2
      have ly := dp_len hy2
      refine lenT hx3 (lenT hy3 ?_)
      rw [lx, ly]
      walk_at "sx"
      refine ⟨_, _, ⟨rfl, rfl⟩, _, _, .inr ⟨hx3, hy3, fun D nD => ?_⟩⟩
      refine lc_zipT (fun _ => true) (fun _ => V.bl true) hx3 hy3 (by omega) nD (by omega) (fun u v => rfl) (fun i u v _ _ => tyes) (fun i u v hu hv _ => ?_) (fun H2 e3 hD => ?_)
      · obtain ⟨d1, f1, g1⟩ := dp_at hx2 hu
        obtain ⟨d2, f2, g2⟩ := dp_at hy2 hv
        rw [f1] at f2
        cases f2
        refine ev_call (vs := [u, v]) (ea_cons (ev_var rfl) (ea_cons (ev_var rfl) ea_nil)) (fun H3 e3 Q3 q3 E3 => ?_)
        exact ⟨u, v, d1, rfl, ex_d e3 _ _ g1, ex_d e3 _ _ g2, h _ (List.mem_of_getElem? f1), q3⟩
      · rw [kept_const] at hD
        have e5 : List.replicate ds.length (V.bl true) = (List.replicate ds.length true).map V.bl := by rw [List.map_replicate]
        rw [lx, e5] at hD
        refine allL (.inl (.inl hD)) ?_
        rw [all_true]
        exact k _ ((e1.trans e2).trans e3)
theorem ok_law_same (T : Txt P K mg) : FnOk P w K mg base CX0 4 T.f_law_same T.fd_law_same ["_law_found", "_law_expected"] (spEq K 3) :=
  eq_step T (.inr ⟨2, rfl, rfl⟩) (eq_step T (.inr ⟨1, rfl, rfl⟩) (eq_step T (.inr ⟨0, rfl, rfl⟩) (eq_step T (n := 0) (.inl rfl) (eq_base T))))
end
end LW

set_option Elab.async false
set_option linter.all false
set_option maxRecDepth 100000
set_option maxHeartbeats 4000000
namespace LW
open PySem PySem.Spec PyProof.Rows L2 BC Evl TR EF L2.DX SUX
local macro_rules | `(tactic| walk_at "sx") => `(tactic| try simp only [x_callV, x_lcV, x_callKS, BC.x_gtupV, x_methF, x_methF2, x_methR, x_propF, SUX.x_sup1, x_sortSetB, x_lenSetA, x_mulS, x_callS, x_makeS, x_makeKS, x_seq, x_next, x_brk, x_cnt, x_nev, x_ret, x_retN, x_drop, x_ifS, x_asg, x_gn, x_gsub, x_par, x_par3, x_aug, x_for, x_lc, x_rng1, x_rng2, x_rng3, x_ilist, x_itup, x_ienum, x_izip, x_izipA, x_istr, x_var, x_c, x_op, x_un, x_test, x_b, x_chain, x_and, x_or, x_not, x_andV, x_orV, x_notV, x_ife, x_nil, x_cons, x_lst, x_tup, x_cb, x_call, x_callK, x_bm, x_bm0, x_tru, x_sl, x_nopart, x_part, x_revL, x_I0, x_I, x_U, x_ip, x_ipC, x_eqI, x_neI, x_eqB, x_neB, x_eqS, x_neS, x_isB, x_isNB, x_lrg, x_gall, x_lenSet, x_sortSet, x_rg1, x_rg2, x_dnewK, x_dnewT, x_dget, x_dget1, x_dget2, x_din, x_dnotin, x_dput, x_ikeys, x_fld, x_sfld, x_prop, x_meth, x_make, x_dc, x_callO, x_callOK,
  L2.start, List.map_cons, List.map_nil, List.length_cons, List.length_nil, Nat.reduceAdd, Nat.reduceSub, Nat.sub_self, Nat.zero_add, List.replicate, List.replicate_succ, List.replicate_zero, List.append_nil, List.cons_append, List.nil_append, List.set_cons_zero, List.set_cons_succ, List.getElem?_cons_zero, List.getElem?_cons_succ, Option.some.injEq, V.int.injEq, V.bl.injEq, V.ref.injEq, V.str.injEq, List.cons.injEq, and_true, true_and, exists_eq_left', exists_eq_left, exists_and_left, exists_eq, if_true, if_false, ite_true, ite_false, Bool.true_eq_false, Bool.false_eq_true, reduceIte, reduceCtorEq, Bool.not_true, Bool.not_false, decide_true, decide_false, decide_eq_true_eq, Bool.and_true, Bool.true_and, Bool.and_self, Bool.and_false, Bool.false_and, Bool.or_self, Bool.or_false, Bool.false_or, Bool.or_true, Bool.true_or, eq_self])
section
variable {P : Program} {w : World} {K : PySem.W.Frag} {mg : Str → Option Value} {base : Heap}
def spPlay : Sp := fun vs H Q _ => ∃ (t r d g : Addr) (bd n : Nat) (s : List Int × List Int) (ns : List Int), vs = [.ref t, .ref g, .int bd] ∧ H t = some (.tup [.ref r, .ref d]) ∧ H r = some (.lst (s.1.map V.int)) ∧ H d = some (.lst (s.2.map V.int)) ∧ H g = some (.lst (ns.map V.int)) ∧ SOk n s ∧ n + ns.length ≤ 5000 ∧ Pg 40 ns ∧
  ∀ t2 t1 r2 d2 f H', H t2 = none → (∀ z o, H z = some o → z ≠ r → r2 ≠ z ∧ d2 ≠ z ∧ t1 ≠ z ∧ f ≠ z) → Ex H H' → H' t2 = some (.tup [.ref t1, .ref f]) → H' t1 = some (.tup [.ref r2, .ref d2]) → H' r2 = some (.lst ((plT bd s.1 ns).map V.int)) → H' d2 = some (.lst ((s.2 ++ ns).map V.int)) → H' f = some (.lst ((nwB bd s.1 ns).map V.bl)) → Q (.ref t2) H'
theorem cut_upto (xs : List V) {j : Nat} (h : j ≤ xs.length) : cutV xs none (some (j : Int)) = xs.take j := by
  unfold cutV
  rw [HT.sIx_nat, HT.sIx_none, List.drop_zero, Nat.sub_zero, Nat.min_eq_left h]
def JPl (H0 : Hp) (r0 : Addr) (H1 : Hp) (t g d f : Addr) (bd : Nat) (s : List Int) (ns : List Int) (i : Nat) (σ' : L2.St) (H' : Hp) : Prop := ∃ r l4, σ' = [some (.ref t), some (.ref g), some (.int bd), some (.ref f), l4, some (.ref r), some (.ref d)] ∧ Fx f H1 H' ∧ r ≠ f ∧ (∀ z o, H0 z = some o → z ≠ r0 → r ≠ z) ∧ H' r = some (.lst ((plT bd s (ns.take i)).map V.int)) ∧ H' f = some (.lst (((nwB bd s ns).take i).map V.bl))
theorem ok_law_played (T : Txt P K mg) : FnOk P w K mg base CX0 3 T.f_law_played T.fd_law_played ["_law_state", "_law_line_here", "_law_bound"] spPlay := by
  refine T.F_law_played.ok sc_law_played (fun vs H Q E h => ?_) (fun cdv A outer s H vs Q E hr h => ?_)
  · obtain ⟨t, r, d, g, bd, n, s, ns, rfl, _⟩ := h
    rfl
  · obtain ⟨t, r, d, g, bd, n, s, ns, rfl, ht, hr0, hd, hg, so, hn, hp, k⟩ := h
    apply Exists.intro
    apply And.intro
    · apply pss_cons
      · exact (ps_asg (pv 0) (k_tup (K := K) (n := 2) rfl rfl (pgs_cons (pg_name (i := 5) sc_law_played.nd rfl (.inl rfl)) (pgs_cons (pg_name (i := 6) sc_law_played.nd rfl (.inl rfl)) pgs_nil))))
      apply pss_cons
      · exact (ps_set (i := 3) sc_law_played.nd rfl (.inl rfl) (pe_lst pa_nil))
      apply pss_cons
      · apply ps_for PassesOwn.never rfl
        · exact (k_pi_list (K := K) rfl (pv 1))
        · exact (pg_name (i := 4) sc_law_played.nd rfl (.inl rfl))
        · apply pss_cons
          · exact (ps_expr (k_bm (K := K) rfl (pe_bm PySem.F.plainAttrs_list PySem.F.slot_list_append PySem.F.type_list_append mt_append (pv 3) (pa_cons (pe_cmpR (k_notIn (K := K) rfl) (pv 4) (pv 5) (by rfl)) pa_nil))))
          apply pss_cons
          · exact (ps_set (i := 5) sc_law_played.nd rfl (.inl rfl) (pe_ifExp (pt_cmpR (k_notIn (K := K) rfl) (pv 4) (pv 5) (by rfl)) (pe_op op_cat (pv 5) (pe_lst (pa_cons (pv 4) pa_nil))) (pe_slice (k_sl_list (K := K) rfl) (pv 5) po_none (po_some (pe_op op_add (k_bm (K := K) rfl (pe_bm PySem.F.plainAttrs_list PySem.F.slot_list_index PySem.F.type_list_index (k_index (K := K) rfl) (pv 5) (pa_cons (pv 4) pa_nil))) pe_int)))))
          apply pss_one
          exact (ps_set (i := 5) sc_law_played.nd rfl (.inl rfl) (pe_ifExp (pt_cmpR op_gt (pe_callB (k_len (K := K) rfl) (by rfl) T.n_len PySem.boot_len (pa_cons (pv 5) pa_nil)) (pv 2) (by rfl)) (pe_slice (k_sl_list (K := K) rfl) (pv 5) (po_some pe_int) po_none) (pv 5)))
      apply pss_one
      exact (ps_ret (pe_tup (pa_cons (pe_tup (pa_cons (pv 5) (pa_cons (pe_op op_cat (pv 6) (pv 1)) pa_nil))) (pa_cons (pv 3) pa_nil))))
    walk_at "sx"
    refine g_two ht ?_
    walk_at "sx"
    refine ⟨by decide, fun f nf => ⟨⟨_, .inl (.inl ((Ex.new nf) _ _ hg))⟩, ?_⟩⟩
    have ef := Ex.new nf (o := .lst [])
    have hr1 := ef _ _ hr0
    have hg1 := ef _ _ hg
    have hd1 := ef _ _ hd
    have hf1 := upd_same (H := H) (a := f) (o := .lst [])
    have ngf : g ≠ f := ne_of_none hg nf
    have ndf : d ≠ f := ne_of_none hd nf
    generalize (upd H f (.lst [])) = H1 at ef hr1 hg1 hd1 hf1 ⊢
    refine lg_list (xs := ns.map V.int) (JPl H r H1 t g d f bd s.1 ns) ⟨r, none, rfl, Fx.refl _ _, ne_of_none hr0 nf, fun z o _ n => n.symm, hr1, hf1⟩ (fun i σ' H' _ hP => by obtain ⟨_, _, _, e, _⟩ := hP; exact .inl (.inl (e _ _ ngf hg1))) (fun i v σ' H' hv hP => ?_) (fun σ' H' hP => ?_)
    · obtain ⟨r', l4, rfl, e, nrf, nz, hr, hf⟩ := hP
      obtain ⟨q, hq, rfl⟩ := ints_at hv
      have hi := (List.getElem?_eq_some_iff.mp hq).1
      obtain ⟨nd2, pg2⟩ := plT_ok (b := bd) so.nd so.pg (hp.take i)
      have l40 := nodup_len 40 nd2 pg2
      have hlf2 : ((nwB bd s.1 ns).take i).length = i := by rw [List.length_take, nwB_len]; omega
      generalize ht0 : plT bd s.1 (ns.take i) = t0 at hr nd2 pg2 l40
      simp only [x_gn, List.set_cons_zero, List.set_cons_succ]
      refine seq_cut (fun σ' H3 => σ' = [some (.ref t), some (.ref g), some (.int bd), some (.ref f), some (.int q), some (.ref r'), some (.ref d)] ∧ Fx f H1 H3 ∧ H3 r' = some (.lst (t0.map V.int)) ∧ H3 f = some (.lst (((nwB bd s.1 ns).take (i + 1)).map V.bl))) (fun N hN => ?_) (fun σ3 H3 hC => ?_)
      · walk_at "sx"
        refine ⟨tyL hf, ?_⟩
        refine ninL (.inl (.inl hr)) ?_
        refine appL hf (BC.sz_lt (by rw [List.length_map]; omega)) ?_
        refine hN _ _ ⟨rfl, e.trans Fx.put, by rw [upd_ne nrf]; exact hr, ?_⟩
        rw [upd_same, nwB_snoc hq, List.map_append, ht0]
        simp
      obtain ⟨rfl, g1, hr2, hf2⟩ := hC
      refine seq_asg (fun v H' => ∃ u, v = .ref u ∧ H3 u = none ∧ Ex H3 H' ∧ H' u = some (.lst ((vis t0 q).map V.int))) (fun R hR => ?_) (fun v H4 hC => ?_)
      · walk_at "sx"
        refine ninL (.inl (.inl hr2)) ?_
        refine ⟨_, rfl, ?_⟩
        by_cases c : q ∈ t0
        · rw [decide_eq_true c, if_neg (by decide)]
          refine ⟨tyL hr2, idxL (.inl (.inl hr2)) c ?_⟩
          have hix := List.idxOf_lt_length_of_mem c
          walk_at "sx"
          refine slL (.inl (.inl hr2)) fun u nu => ?_
          refine hR _ _ ⟨u, rfl, nu, Ex.new nu, ?_⟩
          rw [upd_same, show ((t0.idxOf q : Nat) : Int) + 1 = ((t0.idxOf q + 1 : Nat) : Int) by omega, cut_upto _ (by rw [List.length_map]; omega)]
          unfold vis
          rw [if_pos c, List.map_take]
        · rw [decide_eq_false c, if_pos (by decide)]
          refine ⟨by decide, fun z nz1 => ?_⟩
          have ez := Ex.new nz1 (o := .lst [V.int q])
          refine catL (ez _ _ hr2) upd_same (sz_ok (by simp; omega)) fun u nu => ?_
          refine hR _ _ ⟨u, rfl, fresh_back ez nu, ez.trans (Ex.new nu), ?_⟩
          rw [upd_same]
          unfold vis
          rw [if_neg c, List.map_append]
          rfl
      obtain ⟨u, rfl, nu, e4, hu⟩ := hC
      walk_at "sx"
      have v40 := nodup_len 40 (vis_nodup (p := q) nd2) (vis_pg pg2 (hp.at hq).1 (hp.at hq).2)
      refine lenL (.inl (.inl hu)) ?_
      rw [List.length_map]
      have fin : ∀ (u : Addr) (H4 : Hp), H3 u = none → Ex H3 H4 → H4 u = some (.lst ((stp bd t0 q).map V.int)) → JPl H r H1 t g d f bd s.1 ns (i + 1) [some (.ref t), some (.ref g), some (.int bd), some (.ref f), some (.int q), some (.ref u), some (.ref d)] H4 := fun u H4 nu e4 hu => by
        have nuf : u ≠ f := fun e => by rw [e, hf2] at nu; cases nu
        exact ⟨u, _, rfl, g1.trans (Fx.of e4), nuf, fun z o hz _ => (ne_of_none (g1 _ _ (ne_of_none hz nf) (ef _ _ hz)) nu).symm, by rw [hu, plT_snoc hq, ht0], e4 _ _ hf2⟩
      walk_at "sx"
      by_cases c : bd < (vis t0 q).length
      · rw [if_pos (by omega)]
        refine slL (.inl (.inl hu)) fun z nz1 => ?_
        refine fin z _ (fresh_back e4 nz1) (e4.trans (Ex.new nz1)) ?_
        rw [upd_same, cutV_from1]
        unfold stp
        rw [if_pos c, List.map_drop]
      · rw [if_neg (by omega)]
        refine fin u _ nu e4 ?_
        rw [hu]
        unfold stp
        rw [if_neg c]
    · obtain ⟨r', l4, rfl, e, nrf, nz, hr, hf⟩ := hP
      rw [List.length_map, List.take_of_length_le (Nat.le_refl _)] at hr
      rw [List.length_map, List.take_of_length_le (by rw [nwB_len]; exact Nat.le_refl _)] at hf
      have e3 : Ex H H' := fun b o h => e b o (ne_of_none h nf) (ef b o h)
      have ls := so.ln
      walk_at "sx"
      refine catL (e _ _ ndf hd1) (e _ _ ngf hg1) (sz_ok (by simp; omega)) fun d2 nd2 => ?_
      have ed := Ex.new nd2 (o := .lst (s.2.map V.int ++ ns.map V.int))
      have hd2 := upd_same (H := H') (a := d2) (o := .lst (s.2.map V.int ++ ns.map V.int))
      refine ⟨sz_ok (by omega), fun t1 nt1 => ⟨sz_ok (by omega), fun t2 nt2 => ?_⟩⟩
      have e1 := Ex.new nt1 (o := .tup [V.ref r', V.ref d2])
      have e2 := Ex.new nt2 (o := .tup [V.ref t1, V.ref f])
      have e12 := e1.trans e2
      exact k t2 t1 r' d2 f _ (fresh_back ((e3.trans ed).trans e1) nt2) (fun z o hz n => ⟨nz z o hz n, (ne_of_none (e3 _ _ hz) nd2).symm, (ne_of_none (ed _ _ (e3 _ _ hz)) nt1).symm, (ne_of_none hz nf).symm⟩) ((e3.trans ed).trans e12) upd_same (e2 _ _ upd_same) (e12 _ _ (ed _ _ hr)) (by rw [e12 _ _ hd2, List.map_append]) (e12 _ _ (ed _ _ hf))
end
end LW

set_option Elab.async false
set_option linter.all false
set_option maxRecDepth 100000
set_option maxHeartbeats 4000000
namespace LW
open PySem PySem.Spec PyProof.Rows L2 BC Evl TR EF L2.DX SUX
local macro_rules | `(tactic| walk_at "sx") => `(tactic| try simp only [x_callV, x_lcV, x_callKS, BC.x_gtupV, x_methF, x_methF2, x_methR, x_propF, SUX.x_sup1, x_sortSetB, x_lenSetA, x_mulS, x_callS, x_makeS, x_makeKS, x_seq, x_next, x_brk, x_cnt, x_nev, x_ret, x_retN, x_drop, x_ifS, x_asg, x_gn, x_gsub, x_par, x_par3, x_aug, x_for, x_lc, x_rng1, x_rng2, x_rng3, x_ilist, x_itup, x_ienum, x_izip, x_izipA, x_istr, x_var, x_c, x_op, x_un, x_test, x_b, x_chain, x_and, x_or, x_not, x_andV, x_orV, x_notV, x_ife, x_nil, x_cons, x_lst, x_tup, x_cb, x_call, x_callK, x_bm, x_bm0, x_tru, x_sl, x_nopart, x_part, x_revL, x_I0, x_I, x_U, x_ip, x_ipC, x_eqI, x_neI, x_eqB, x_neB, x_eqS, x_neS, x_isB, x_isNB, x_lrg, x_gall, x_lenSet, x_sortSet, x_rg1, x_rg2, x_dnewK, x_dnewT, x_dget, x_dget1, x_dget2, x_din, x_dnotin, x_dput, x_ikeys, x_fld, x_sfld, x_prop, x_meth, x_make, x_dc, x_callO, x_callOK,
  L2.start, List.map_cons, List.map_nil, List.length_cons, List.length_nil, Nat.reduceAdd, Nat.reduceSub, Nat.sub_self, Nat.zero_add, List.replicate, List.replicate_succ, List.replicate_zero, List.append_nil, List.cons_append, List.nil_append, List.set_cons_zero, List.set_cons_succ, List.getElem?_cons_zero, List.getElem?_cons_succ, Option.some.injEq, V.int.injEq, V.bl.injEq, V.ref.injEq, V.str.injEq, List.cons.injEq, and_true, true_and, exists_eq_left', exists_eq_left, exists_and_left, exists_eq, if_true, if_false, ite_true, ite_false, Bool.true_eq_false, Bool.false_eq_true, reduceIte, reduceCtorEq, Bool.not_true, Bool.not_false, decide_true, decide_false, decide_eq_true_eq, Bool.and_true, Bool.true_and, Bool.and_self, Bool.and_false, Bool.false_and, Bool.or_self, Bool.or_false, Bool.false_or, Bool.or_true, Bool.true_or, eq_self])
section
variable {P : Program} {w : World} {K : PySem.W.Frag} {mg : Str → Option Value} {base : Heap}
def firstD : List Int → PyData
  | [] => .none
  | a :: _ => .int a
def srt (t : List Int) : List Int := ((List.range 40).map fun i : Nat => (i : Int)).filter fun p => decide (p ∈ t)
def dPr (q : Int × Int) : PyData := .tuple [.int q.1, .int q.2]
def dChain (row : List Int) : PyData := .list ((exs row).map dPr)
def dSeen (s : List Int × List Int) : PyData := .list [.list (s.1.map PyData.int), .list (s.2.map PyData.int), firstD s.2, dChain s.2, .int (s.1.length : Nat), .list ((srt s.1).map PyData.int)]
theorem srt_at (t : List Int) (h : Pg 40 t) (q : Int) : q ∈ srt t ↔ q ∈ t := by
  unfold srt
  rw [List.mem_filter, List.mem_map]
  constructor
  · rintro ⟨_, hq⟩
    exact of_decide_eq_true hq
  · intro hq
    have hp := h q hq
    exact ⟨⟨q.toNat, List.mem_range.mpr (by omega), by omega⟩, decide_eq_true hq⟩
theorem srt_lt (t : List Int) : (srt t).Pairwise (· < ·) := by
  unfold srt
  refine List.Pairwise.filter _ ?_
  rw [List.pairwise_map]
  exact List.pairwise_lt_range.imp fun h => by omega
theorem srt_eq {t ys : List Int} (h : Pg 40 t) (nd : t.Nodup) (pm : ys.Perm t) (s : ys.Pairwise (· ≤ ·)) : ys = srt t := by
  have nd2 : ys.Nodup := pm.nodup_iff.mpr nd
  refine ints_uniq ?_ (srt_lt t) fun q => ?_
  · exact (s.and nd2).imp fun {a b} h => by
      have := h.1
      have := h.2
      omega
  · rw [pm.mem_iff, srt_at t h]
theorem dp_chain {H : Hp} {ts : List Addr} {qs : List (Int × Int)} (hl : ts.length = qs.length) (h : ∀ (i : Nat) u, ts[i]? = some u → PairAt H u (qs.getD i (0, 0))) : DpAll K H (ts.map V.ref) (qs.map dPr) := by
  induction ts generalizing qs with
  | nil =>
    cases qs with
    | nil => exact .nil
    | cons q qs => cases hl
  | cons u ts ih =>
    cases qs with
    | nil => cases hl
    | cons q qs =>
      refine .cons (.tup (.inl (.inl (h 0 u rfl))) (.cons (.int _) (.cons (.int _) .nil))) (ih (by simpa using hl) fun i u hu => ?_)
      have := h (i + 1) u (by rw [List.getElem?_cons_succ]; exact hu)
      rw [List.getD_cons_succ] at this
      exact this
theorem dp_first {H : Hp} (ns : List Int) : Dp K H (firstV ns) (firstD ns) := by
  cases ns with
  | nil => exact .non
  | cons a r => exact .int a
def spDue (K : PySem.W.Frag) : Sp := fun vs H Q _ => ∃ (t r d : Addr) (s : List Int × List Int), vs = [.ref t] ∧ H t = some (.tup [.ref r, .ref d]) ∧ H r = some (.lst (s.1.map V.int)) ∧ H d = some (.lst (s.2.map V.int)) ∧ SOk 6000 s ∧ ∀ l H', H l = none → Ex H H' → Dp K H' (.ref l) (dSeen s) → Q (.ref l) H'
def JDu (H1 : Hp) (t D r d : Addr) (row : List Int) (i : Nat) (σ' : L2.St) (H' : Hp) : Prop := ∃ l2 l3 qs, σ' = [some (.ref t), some (.ref D), none, some (.ref r), some (.ref d), l2, l3] ∧ Fx D H1 H' ∧ H' D = some (.dK ((qs : List (Int × Int)).map itK)) ∧ foldP qs (row.drop i) = foldP [] row ∧ qs.length ≤ i
theorem ok_law_due (T : Txt P K mg) : FnOk P w K mg base CX0 3 T.f_law_due T.fd_law_due ["_law_state"] (spDue K) := by
  refine T.F_law_due.ok sc_law_due (fun vs H Q E h => ?_) (fun cdv A outer s H vs Q E hr h => ?_)
  · obtain ⟨t, r, d, s, rfl, _⟩ := h
    rfl
  · obtain ⟨t, r, d, s, rfl, ht, hr0, hd, so, k⟩ := h
    apply Exists.intro
    apply And.intro
    · apply pss_cons
      · exact (ps_asg (pv 0) (k_tup (K := K) (n := 2) rfl rfl (pgs_cons (pg_name (i := 3) sc_law_due.nd rfl (.inl rfl)) (pgs_cons (pg_name (i := 4) sc_law_due.nd rfl (.inl rfl)) pgs_nil))))
      apply pss_cons
      · exact (ps_set (i := 1) sc_law_due.nd rfl (.inr rfl) pe_dnewK)
      apply pss_cons
      · apply ps_for PassesOwn.never rfl
        · exact (k_pi_zipA (K := K) rfl (by rfl) T.n_zip (pa_cons (pv 4) (pa_cons (pe_op op_cat (pe_slice (k_sl_list (K := K) rfl) (pv 4) (po_some pe_int) po_none) (pe_slice (k_sl_list (K := K) rfl) (pv 4) (po_some (pe_un un_neg pe_int)) po_none)) pa_nil)))
        · exact (k_tup (K := K) (n := 2) rfl rfl (pgs_cons (pg_name (i := 5) sc_law_due.nd rfl (.inl rfl)) (pgs_cons (pg_name (i := 6) sc_law_due.nd rfl (.inl rfl)) pgs_nil)))
        · apply pss_one
          exact (ps_dput (hu_of hr) (pv 1) (pv 5) (pv 6) rfl)
      apply pss_cons
      · exact (ps_setLc (i := 2) (own := [("_law_page", 5)]) rfl sc_law_due.nd rfl rfl (sw_true rfl rfl rfl (by decide +kernel)) (k_pi_list (K := K) rfl (pe_callB (cr_sortDI rfl) (by rfl) T.n_sorted (by decide +kernel) (pa_cons (pv 1) pa_nil))) (blkOk_by (own := [("_law_page", 5)]) (N := ["_law_state", "_law_found", "_law_chain", "_law_row", "_law_done", "_law_page", "_law_follower"]) (sc := defScope s_law_due) (by decide +kernel)) (fun _ _ _ _ _ => by exact (pg_name (i := 5) sc_law_due.nd rfl (.inl rfl))) (fun _ _ _ _ _ => by exact pts_nil) (fun _ _ _ _ _ => by exact (pe_tup (pa_cons (pv 5) (pa_cons (pe_dget (hu_of hr) (pv 1) (pv 5) (fun _ _ => rfl)) pa_nil)))))
      apply pss_one
      exact (ps_ret (pe_lst (pa_cons (pv 3) (pa_cons (pv 4) (pa_cons (pe_ifExp (pt_cmpR (k_neD (K := K) rfl hr.units) (pv 4) (pe_lst pa_nil) (by rfl)) (pe_ix (k_ix_list (K := K) rfl) (pv 4) pe_int (fun _ _ => rfl)) pe_non) (pa_cons (pv 2) (pa_cons (pe_callB (k_len (K := K) rfl) (by rfl) T.n_len PySem.boot_len (pa_cons (pv 3) pa_nil)) (pa_cons (pe_callB (k_sorted (K := K) rfl) (by rfl) T.n_sorted (by decide +kernel) (pa_cons (pv 3) pa_nil)) pa_nil))))))))
    walk_at "sx"
    refine g_two ht ?_
    walk_at "sx"
    obtain ⟨row1, row⟩ := s
    have hl := so.ln
    have hp2 : Pg 40 row := so.pv
    have hrow := hd
    simp only at hl hp2 hd hr0 hrow
    refine fun D nD => ?_
    have e1 := Ex.new nD (o := .dK [])
    refine slL (.inl (.inl (e1 _ _ hd))) fun c nc => ?_
    have e2 := Ex.new nc (o := .lst (cutV (row.map V.int) (some 1) none))
    refine slL (.inl (.inl ((e1.trans e2) _ _ hd))) fun b nb => ?_
    have e3 := Ex.new nb (o := .lst (cutV (row.map V.int) (some (-1)) none))
    refine catL (e3 _ _ upd_same) upd_same (sz_ok (by have h1 := cutV_len (row.map V.int) (some 1) none; have h2 := cutV_len (row.map V.int) (some (-1)) none; rw [List.length_map] at h1 h2; omega)) fun z nz1 => ?_
    have e4 := Ex.new nz1 (o := .lst (cutV (row.map V.int) (some 1) none ++ cutV (row.map V.int) (some (-1)) none))
    have E := e2.trans (e3.trans e4)
    have hd0 := E _ _ (upd_same (H := H) (a := D) (o := .dK []))
    rw [cut_seconds] at E hd0 ⊢
    have hzz : (upd (upd (upd (upd H D (.dK [])) c (.lst (cutV (row.map V.int) (some 1) none))) b (.lst (cutV (row.map V.int) (some (-1)) none))) z (.lst ((seconds row).map V.int))) z = some (.lst ((seconds row).map V.int)) := upd_same
    have hA2 := (e1.trans E) _ _ hd
    have hR2 := (e1.trans E) _ _ hr0
    generalize (upd (upd (upd (upd H D (.dK [])) c (.lst (cutV (row.map V.int) (some 1) none))) b (.lst (cutV (row.map V.int) (some (-1)) none))) z (.lst ((seconds row).map V.int))) = H1 at E hd0 hzz hA2 hR2 ⊢
    have ndD : d ≠ D := ne_of_none hd nD
    have nrD : r ≠ D := ne_of_none hr0 nD
    have nzd : z ≠ D := ne_of hzz hd0 (by intro z; cases z)
    refine ⟨_, _, ⟨rfl, rfl⟩, _, _, .inl ⟨.inl (.inl hA2), .inl (.inl hzz), ?_⟩⟩
    refine lg_zip (xs := row.map V.int) (ys := (seconds row).map V.int) (by rw [List.length_map, List.length_map, seconds_len]) (JDu H1 t D r d row) ⟨none, none, [], rfl, Fx.refl _ _, hd0, rfl, Nat.le_refl _⟩ (fun i σ' H' hP => ?_) (fun i x y T σ' H' hx hy hP nT => ?_) (fun σ' H' hP => ?_)
    · obtain ⟨_, _, _, _, fx, _⟩ := hP
      exact ⟨.inl (.inl (fx _ _ ndD hA2)), .inl (.inl (fx _ _ nzd hzz))⟩
    · obtain ⟨l2, l3, qs, rfl, fx, hd, hf, hq⟩ := hP
      obtain ⟨p, hp, rfl⟩ := ints_at hx
      obtain ⟨q, hq2, rfl⟩ := ints_at hy
      have hi := (List.getElem?_eq_some_iff.mp hp).1
      rw [seconds_at hi] at hq2
      have hpd : row.getD i 0 = p := by rw [List.getD_eq_getElem?_getD, hp]; rfl
      rw [hpd] at hq2
      have eT := Ex.new nT (o := .tup [V.int p, V.int q])
      refine g_two upd_same ?_
      walk_at "sx"
      refine ⟨_, DPut.k (k := Sum.inl p) (eT _ _ hd) (BC.sz_lt (by rw [List.length_map]; omega)), ?_⟩
      refine ⟨_, _, putI qs p q, rfl, (fx.trans (Fx.of eT)).trans Fx.put, by rw [upd_same, putI_put], ?_, Nat.le_trans (putI_len _ _ _) (by omega)⟩
      rw [← hf]
      have ed : row.drop i = p :: row.drop (i + 1) := by rw [List.drop_eq_getElem_cons hi]; congr 1; exact (List.getElem?_eq_some_iff.mp hp).2
      rw [ed]
      show _ = foldP (putI qs p ((row.drop (i + 1)).headD p)) (row.drop (i + 1))
      rw [Option.some.inj hq2]
    · obtain ⟨l2, l3, qs, rfl, fx, hd, hf, hq⟩ := hP
      rw [List.length_map, List.drop_eq_nil_of_le (Nat.le_refl _)] at hf
      have hf' : qs = foldP [] row := hf
      rw [hf'] at hd
      have e5 : Ex H H' := (((Fx.of (e1.trans E)).trans fx).ex nD)
      have hrow' := fx _ _ ndD hA2
      have hR' := fx _ _ nrD hR2
      dsimp only
      refine seq_asg (fun v H2 => ∃ u ts, v = .ref u ∧ Ex H' H2 ∧ H2 u = some (.lst ((ts : List Addr).map V.ref)) ∧ ts.length = (exs row).length ∧ ∀ (j : Nat) t, ts[j]? = some t → PairAt H2 t ((exs row).getD j (0, 0))) (fun R hR => ?_) (fun v H2 hC => ?_)
      · walk_at "sx"
        refine ⟨D, _, (foldP [] row).map (·.1), rfl, .inl hd, by rw [List.map_map, List.map_map]; rfl, keys_len hp2, fun ys q pm srt nq => ?_⟩
        have eys := keys_exs hp2 pm srt
        subst eys
        have eq1 := Ex.new nq (o := .lst (((exs row).map (·.1)).map V.int))
        have h40 := exs_len40 row
        refine ⟨q, rfl, ⟨_, .inl (.inl upd_same)⟩, fun DL nDL => ?_⟩
        have hq5 : (upd H' q (.lst (((exs row).map (·.1)).map V.int))) q = some (.lst (((exs row).map (·.1)).map V.int)) := upd_same
        have hd5 := eq1 _ _ hd
        generalize (upd H' q (.lst (((exs row).map (·.1)).map V.int))) = H6 at hq5 hd5 eq1 nDL ⊢
        refine lc_listE (xs := ((exs row).map (·.1)).map V.int) (JCm H6 DL row) ⟨Ex.new nDL, [], upd_same, rfl, fun j t e => by simp at e⟩ (fun i H' _ hP => .inl (.inl (hP.1 _ _ hq5))) (fun i v H' hv hP => ?_) (fun H7 hP => ?_)
        · obtain ⟨e, ts, hD, lts, hts⟩ := hP
          obtain ⟨y, hy, rfl⟩ := ints_at hv
          rw [List.getElem?_map] at hy
          obtain ⟨⟨c, z⟩, hcz⟩ : ∃ g, (exs row)[i]? = some g := by
            cases hg : (exs row)[i]? with
            | none => rw [hg] at hy; cases hy
            | some g => exact ⟨g, rfl⟩
          rw [hcz] at hy
          have hy' : c = y := Option.some.inj hy
          subst hy'
          have hi := (List.getElem?_eq_some_iff.mp hcz).1
          have hnx := (mem_exs hp2).mp (List.mem_of_getElem? hcz)
          walk_at "sx"
          refine ⟨rfl, ?_⟩
          simp only [wipe, List.set_cons_zero, List.set_cons_succ, List.map_cons, List.map_nil, List.foldl_cons, List.foldl_nil]
          walk_at "sx"
          have hval : valV ((foldP [] row).map itK) (Sum.inl c) = some (.int z) := by
            rw [getI_val, foldP_all, hnx]
            rfl
          have hg := DGet.k (k := Sum.inl c) (e _ _ hd5)
          rw [hval] at hg
          refine ⟨_, hg, ?_⟩
          refine ⟨by decide, fun t nt => ?_⟩
          have et := Ex.new nt (o := .tup [V.int c, V.int z])
          have nDt : DL ≠ t := ne_of_none hD nt
          refine ⟨_, et _ _ hD, BC.sz_lt (by rw [List.length_map]; omega), (e.trans et).mut nDL, ts ++ [t], by rw [upd_same, List.map_append]; rfl, by rw [List.length_append, lts]; rfl, fun j t2 hj => ?_⟩
          by_cases c1 : j < ts.length
          · rw [List.getElem?_append_left c1] at hj
            have h := hts j t2 hj
            unfold BC.PairAt at h ⊢
            rw [upd_ne (ne_of h hD (by intro z; cases z)), et _ _ h]
          · have hj' := (List.getElem?_eq_some_iff.mp hj).1
            rw [List.length_append, List.length_singleton] at hj'
            have ej : j = ts.length := by omega
            subst ej
            rw [List.getElem?_append_right (Nat.le_refl _), Nat.sub_self] at hj
            obtain rfl : t = t2 := by simpa using hj
            unfold BC.PairAt
            rw [upd_ne nDt.symm, upd_same, lts, List.getD_eq_getElem?_getD, hcz]
            rfl
        · obtain ⟨e, ts, hD, lts, hts⟩ := hP
          rw [List.length_map, List.length_map] at lts
          exact hR _ _ ⟨DL, ts, rfl, eq1.trans e, hD, lts, hts⟩
      obtain ⟨u, ts, rfl, e6, hu, lts, hts⟩ := hC
      have hrow2 := e6 _ _ hrow'
      have hR2' := e6 _ _ hR'
      have l40 := so.l40
      simp only at l40
      walk_at "sx"
      refine ⟨by decide, fun z0 nz0 => ?_⟩
      have e7 := Ex.new nz0 (o := .lst [])
      have E7 := (e5.trans e6).trans e7
      have hrow3 := e7 _ _ hrow2
      have hR3 := e7 _ _ hR2'
      have hu3 := e7 _ _ hu
      have hts3 : ∀ (j : Nat) t, ts[j]? = some t → PairAt (upd H2 z0 (.lst [])) t ((exs row).getD j (0, 0)) := fun j t h => e7 _ _ (hts j t h)
      refine neInts (ms := []) (.inl (.inl hrow3)) (.inl (.inl upd_same)) ?_
      generalize (upd H2 z0 (.lst [])) = H3 at E7 hrow3 hR3 hu3 hts3 ⊢
      have fin : BC.rLen K [V.ref r] H3 fun x H1 => rSorted K [V.ref r] H1 fun x_1 H1 => 6 ≤ sizeLine ∧ ∀ (p : Addr), H1 p = none → Q (V.ref p) (upd H1 p (HO.lst [V.ref r, V.ref d, firstV row, V.ref u, x, x_1])) := by
        refine lenL (.inl (.inl hR3)) ?_
        refine ⟨r, _, rfl, .inl (.inl hR3), by omega, fun ys q pm sr nq => ⟨by decide, fun l nl => ?_⟩⟩
        have eys := srt_eq so.pg so.nd pm sr
        simp only at eys
        subst eys
        have eq1 := Ex.new nq (o := .lst ((srt row1).map V.int))
        have el := Ex.new nl (o := .lst [V.ref r, V.ref d, firstV row, V.ref u, V.int ((row1.map V.int).length : Nat), V.ref q])
        have eql := eq1.trans el
        have hq2 := el _ _ (upd_same (H := H3) (a := q) (o := .lst ((srt row1).map V.int)))
        refine k l _ (fresh_back (E7.trans eq1) nl) (E7.trans eql) ?_
        refine .lst (.inl (.inl upd_same)) (.cons (.lst (.inl (.inl (eql _ _ hR3))) (dp_ints _)) (.cons (.lst (.inl (.inl (eql _ _ hrow3))) (dp_ints _)) (.cons (dp_first _) (.cons (.lst (.inl (.inl (eql _ _ hu3))) (dp_chain lts fun j t h => eql _ _ (hts3 j t h))) (.cons ?_ (.cons (.lst (.inl (.inl hq2)) (dp_ints _)) .nil))))))
        rw [List.length_map]
        exact .int _
      refine ⟨_, rfl, ?_⟩
      cases row with
      | nil =>
        rw [if_neg (by decide)]
        exact fin
      | cons a rest =>
        rw [if_pos (by simp)]
        refine ixL (.inl (.inl hrow3)) (atI_n (j := 0) rfl rfl) ?_
        exact fin
end
end LW

set_option Elab.async false
set_option linter.all false
set_option maxRecDepth 100000
set_option maxHeartbeats 4000000
namespace LW
open PySem PySem.Spec PyProof.Rows L2 BC Evl TR EF L2.DX SUX
local macro_rules | `(tactic| walk_at "sx") => `(tactic| try simp only [x_callV, x_lcV, x_callKS, BC.x_gtupV, x_methF, x_methF2, x_methR, x_propF, SUX.x_sup1, x_sortSetB, x_lenSetA, x_mulS, x_callS, x_makeS, x_makeKS, x_seq, x_next, x_brk, x_cnt, x_nev, x_ret, x_retN, x_drop, x_ifS, x_asg, x_gn, x_gsub, x_par, x_par3, x_aug, x_for, x_lc, x_rng1, x_rng2, x_rng3, x_ilist, x_itup, x_ienum, x_izip, x_izipA, x_istr, x_var, x_c, x_op, x_un, x_test, x_b, x_chain, x_and, x_or, x_not, x_andV, x_orV, x_notV, x_ife, x_nil, x_cons, x_lst, x_tup, x_cb, x_call, x_callK, x_bm, x_bm0, x_tru, x_sl, x_nopart, x_part, x_revL, x_I0, x_I, x_U, x_ip, x_ipC, x_eqI, x_neI, x_eqB, x_neB, x_eqS, x_neS, x_isB, x_isNB, x_lrg, x_gall, x_lenSet, x_sortSet, x_rg1, x_rg2, x_dnewK, x_dnewT, x_dget, x_dget1, x_dget2, x_din, x_dnotin, x_dput, x_ikeys, x_fld, x_sfld, x_prop, x_meth, x_make, x_dc, x_callO, x_callOK,
  L2.start, List.map_cons, List.map_nil, List.length_cons, List.length_nil, Nat.reduceAdd, Nat.reduceSub, Nat.sub_self, Nat.zero_add, List.replicate, List.replicate_succ, List.replicate_zero, List.append_nil, List.cons_append, List.nil_append, List.set_cons_zero, List.set_cons_succ, List.getElem?_cons_zero, List.getElem?_cons_succ, Option.some.injEq, V.int.injEq, V.bl.injEq, V.ref.injEq, V.str.injEq, List.cons.injEq, and_true, true_and, exists_eq_left', exists_eq_left, exists_and_left, exists_eq, if_true, if_false, ite_true, ite_false, Bool.true_eq_false, Bool.false_eq_true, reduceIte, reduceCtorEq, Bool.not_true, Bool.not_false, decide_true, decide_false, decide_eq_true_eq, Bool.and_true, Bool.true_and, Bool.and_self, Bool.and_false, Bool.false_and, Bool.or_self, Bool.or_false, Bool.false_or, Bool.or_true, Bool.true_or, eq_self])
section
variable {P : Program} {w : World} {K : PySem.W.Frag} {mg : Str → Option Value} {base : Heap}
def spSeen (T : Txt P K mg) : Sp := fun vs H Q E => ∃ (x p : Addr) (k bd : Nat) (s : List Int × List Int) (ps : List (List Int × List Int)), vs = [.ref x] ∧ LivAt T H k bd x p s ps ∧ SOk 6000 s ∧ ∀ l H', H l = none → Ex H H' → Dp K H' (.ref l) (dSeen s) → Q (.ref l) H'
theorem kept_srt (t : List Int) : kept 40 (fun i => decide ((i : Int) ∈ t)) (fun i => V.int (i : Int)) = (srt t).map V.int := by
  unfold srt
  have h : ∀ n, kept n (fun i => decide ((i : Int) ∈ t)) (fun i => V.int (i : Int)) = (((List.range n).map fun i : Nat => (i : Int)).filter fun p => decide (p ∈ t)).map V.int := fun n => by
    induction n with
    | zero => rfl
    | succ n ih =>
      rw [List.range_succ, List.map_append, List.filter_append, List.map_append, ← ih]
      cases c : decide ((n : Int) ∈ t) with
      | true =>
        rw [kept_yes (k := fun i : Nat => decide ((i : Int) ∈ t)) c]
        simp [of_decide_eq_true c]
      | false =>
        rw [kept_no (k := fun i : Nat => decide ((i : Int) ∈ t)) c]
        simp [of_decide_eq_false c]
  exact h 40
theorem ok_law_seen (T : Txt P K mg) : FnOk P w K mg base CX0 5 T.f_law_seen T.fd_law_seen ["_law_one"] (spSeen T) := by
  refine T.F_law_seen.ok sc_law_seen (fun vs H Q E h => ?_) (fun cdv A outer s H vs Q E hr h => ?_)
  · obtain ⟨x, p, k, bd, s, ps, rfl, _⟩ := h
    rfl
  · obtain ⟨x, p, k, bd, s, ps, rfl, hx, so, kk⟩ := h
    apply Exists.intro
    apply And.intro
    · apply pss_cons
      · exact (ps_set (i := 1) sc_law_seen.nd rfl (.inl rfl) (pe_propF (K := K) (p := T.q_Trail_effect) rfl (pv 0) (ok_Trail_effect T) (hr.mono (by decide)) T.b_Trail_effect pass0 rfl))
      apply pss_one
      exact (ps_ret (pe_lst (pa_cons (pe_propF (K := K) (p := T.q_Trail_trail) rfl (pv 0) (ok_Trail_trail T) (hr.mono (by decide)) T.b_Trail_trail pass0 rfl) (pa_cons (pe_propF (K := K) (p := T.q_Trail_visits) rfl (pv 0) (ok_Trail_visits T) (hr.mono (by decide)) T.b_Trail_visits pass0 rfl) (pa_cons (pe_prop (pv 1) T.cl_Effect T.p_Effect_first (ok_Effect_first T) (hr.mono (by decide)) T.b_Effect_first .nil pass0 rfl) (pa_cons (pe_prop (pv 1) T.cl_Effect T.p_Effect_exits (ok_Effect_exits T) (hr.mono (by decide)) T.b_Effect_exits .nil pass0 rfl) (pa_cons (pe_callB (call_lenF (K := K) rfl (ok_Trail___len T) (hr.mono (by decide)) T.b_Trail___len pass0) (by rfl) T.n_len PySem.boot_len (pa_cons (pv 0) pa_nil)) (pa_cons (pe_lc (own := [("_law_page", 2)]) rfl sc_law_seen.nd (pi_range1 (by rfl) T.n_range (pa_cons pe_int pa_nil)) (blkOk_by (own := [("_law_page", 2)]) (N := ["_law_one", "_law_told", "_law_page"]) (sc := defScope s_law_seen) (by decide +kernel)) (fun _ _ _ _ _ => by exact (pg_name (i := 2) sc_law_seen.nd rfl (.inl rfl))) (fun _ _ _ _ _ => by exact (pts_one (pt_cmpR (op_inF (K := K) rfl (ok_Trail___contains T) (hr.mono (by decide)) T.b_Trail___contains pass0) (pv 2) (pv 0) (by rfl)))) (fun _ _ _ _ _ => by exact (pv 2))) pa_nil))))))))
    walk_at "sx"
    have l40 := so.l40
    obtain ⟨dx, m, y1, y2⟩ := id hx
    refine ⟨_, _, _, y1, (knd T k).cl, T.p_Trail_effect _ (kcl_mem T k), ?_⟩
    refine ⟨x, p, k, bd, s, ps, rfl, hx, fun e he => ?_⟩
    refine ⟨_, _, _, y1, (knd T k).cl, T.p_Trail_trail _ (kcl_mem T k), ?_⟩
    refine ⟨x, p, k, bd, s, ps, rfl, hx, fun l1 H1 n1 e1 h1 => ?_⟩
    have hx1 := hx.ex e1
    refine ⟨_, _, _, e1 _ _ y1, (knd T k).cl, T.p_Trail_visits _ (kcl_mem T k), ?_⟩
    refine ⟨x, p, k, bd, s, ps, rfl, hx1, fun l2 H2 n2 e2 h2 => ?_⟩
    have e12 := e1.trans e2
    have hx2 := hx1.ex e2
    have he2 := he.ex e12
    obtain ⟨dxe, t, d, ts0, z1, z2⟩ := id he2
    refine ⟨e, rfl, _, _, z1, ?_⟩
    refine ⟨e, _, _, rfl, he2, ?_⟩
    refine ⟨e, rfl, _, _, z1, ?_⟩
    refine ⟨e, _, _, rfl, he2, fun l3 ts H3 n3 e3 h3 lts hts => ?_⟩
    have e13 := e12.trans e3
    have hx3 := hx2.ex e3
    have y3 := e13 _ _ y1
    refine ⟨kcl T k, T.m_Trail___len _ (kcl_mem T k), ?_⟩
    refine ⟨x, dx, _, rfl, y3, x, p, k, bd, s, ps, rfl, hx3, _, rfl, by omega, by omega, ?_⟩
    refine ⟨by omega, by omega, fun Dl nD => ?_⟩
    refine lc_rng (n := 40) (lo := 0) (fun i => decide ((i : Int) ∈ s.1)) (fun i => V.int (i : Int)) nD (by omega) (fun u => rfl) (fun i hi => ?_) (fun i hi _ => ?_) (fun H4 e4 hD => ?_)
    · intro H5 e5 R hR
      walk_at "sx"
      refine ⟨_, rfl, _, rfl, x, kcl T k, dx, _, rfl, T.m_Trail___contains _ (kcl_mem T k), e5 _ _ y3, x, p, k, bd, s, ps, _, rfl, hx3.ex e5, so.pg, .int _, _, rfl, ?_⟩
      refine ⟨_, rfl, ?_⟩
      have := hR H5 (Ex.refl _)
      simp only [inTr, Int.zero_add]
      exact this
    · refine ev_is (ev_var rfl) ?_
      rw [show (0 : Int) + (i : Int) = (i : Int) by omega]
    · rw [kept_srt] at hD
      refine ⟨by decide, fun l nl => ?_⟩
      have el := Ex.new nl (o := .lst [V.ref l1, V.ref l2, firstV s.2, V.ref l3, V.int (s.1.length : Nat), V.ref Dl])
      have E := (e13.trans e4).trans el
      have e34 := e3.trans (e4.trans el)
      refine kk l _ (fresh_back (e13.trans e4) nl) E ?_
      refine .lst (.inl (.inl upd_same)) (.cons (.lst (.inl (.inl ((e2.trans e34) _ _ h1))) (dp_ints _)) (.cons (.lst (.inl (.inl (e34 _ _ h2))) (dp_ints _)) (.cons (dp_first _) (.cons (.lst (.inl (.inl ((e4.trans el) _ _ h3))) (dp_chain lts fun j t h => (e4.trans el) _ _ (hts j t h))) (.cons (.int _) (.cons (.lst (.inl (.inl (el _ _ hD))) (dp_ints _)) .nil))))))
end
end LW

set_option Elab.async false
set_option linter.all false
set_option maxRecDepth 100000
set_option maxHeartbeats 4000000
namespace LW
open PySem PySem.Spec PyProof.Rows L2 BC Evl TR EF L2.DX SUX
local macro_rules | `(tactic| walk_at "sx") => `(tactic| try simp only [x_callV, x_lcV, x_callKS, BC.x_gtupV, x_methF, x_methF2, x_methR, x_propF, SUX.x_sup1, x_sortSetB, x_lenSetA, x_mulS, x_callS, x_makeS, x_makeKS, x_seq, x_next, x_brk, x_cnt, x_nev, x_ret, x_retN, x_drop, x_ifS, x_asg, x_gn, x_gsub, x_par, x_par3, x_aug, x_for, x_lc, x_rng1, x_rng2, x_rng3, x_ilist, x_itup, x_ienum, x_izip, x_izipA, x_istr, x_var, x_c, x_op, x_un, x_test, x_b, x_chain, x_and, x_or, x_not, x_andV, x_orV, x_notV, x_ife, x_nil, x_cons, x_lst, x_tup, x_cb, x_call, x_callK, x_bm, x_bm0, x_tru, x_sl, x_nopart, x_part, x_revL, x_I0, x_I, x_U, x_ip, x_ipC, x_eqI, x_neI, x_eqB, x_neB, x_eqS, x_neS, x_isB, x_isNB, x_lrg, x_gall, x_lenSet, x_sortSet, x_rg1, x_rg2, x_dnewK, x_dnewT, x_dget, x_dget1, x_dget2, x_din, x_dnotin, x_dput, x_ikeys, x_fld, x_sfld, x_prop, x_meth, x_make, x_dc, x_callO, x_callOK,
  L2.start, List.map_cons, List.map_nil, List.length_cons, List.length_nil, Nat.reduceAdd, Nat.reduceSub, Nat.sub_self, Nat.zero_add, List.replicate, List.replicate_succ, List.replicate_zero, List.append_nil, List.cons_append, List.nil_append, List.set_cons_zero, List.set_cons_succ, List.getElem?_cons_zero, List.getElem?_cons_succ, Option.some.injEq, V.int.injEq, V.bl.injEq, V.ref.injEq, V.str.injEq, List.cons.injEq, and_true, true_and, exists_eq_left', exists_eq_left, exists_and_left, exists_eq, if_true, if_false, ite_true, ite_false, Bool.true_eq_false, Bool.false_eq_true, reduceIte, reduceCtorEq, Bool.not_true, Bool.not_false, decide_true, decide_false, decide_eq_true_eq, Bool.and_true, Bool.true_and, Bool.and_self, Bool.and_false, Bool.false_and, Bool.or_self, Bool.or_false, Bool.false_or, Bool.or_true, Bool.true_or, eq_self])
section
variable {P : Program} {w : World} {K : PySem.W.Frag} {mg : Str → Option Value} {base : Heap}
def spLine : Sp := fun vs H Q _ => ∃ (b r : Addr) (sz m c : Nat) (row : List Int), vs = [.ref b, .ref r, .int sz, .int m] ∧ 0 < sz ∧ sz ≤ 40 ∧ m ≤ 20 ∧ BagW H b c ∧ c ≤ 900000 ∧ b ≠ r ∧ H r = some (.lst (row.map V.int)) ∧ Pg 40 row ∧ row.length ≤ 40 ∧
  ∀ f ns H', H f = none → Fx b H H' → BagW H' b (c + 60) → H' f = some (.lst ((ns : List Int).map V.int)) → ns.length = m → Pg 40 ns → Q (.ref f) H'
def JLn (H1 : Hp) (b r f : Addr) (sz m c : Nat) (i : Nat) (σ' : L2.St) (H' : Hp) : Prop := ∃ l5 l6 ns, σ' = [some (.ref b), some (.ref r), some (.int sz), some (.int m), some (.ref f), l5, l6] ∧ (∀ a o, a ≠ b → a ≠ f → H1 a = some o → H' a = some o) ∧ BagW H' b (c + 3 * i) ∧ H' f = some (.lst ((ns : List Int).map V.int)) ∧ ns.length = i ∧ Pg 40 ns
theorem BagW.apart {H : Hp} {b z : Addr} {c : Nat} (h : BagW H b c) (n : H z = none) : z ≠ b := fun e => by
  obtain ⟨xs, h⟩ := h.is
  rw [← e, n] at h
  cases h
theorem ok_law_line (T : Txt P K mg) : FnOk P w K mg base CX0 3 T.f_law_line T.fd_law_line ["_law_source_here", "_law_row", "_law_size", "_law_many"] spLine := by
  refine T.F_law_line.ok sc_law_line (fun vs H Q E h => ?_) (fun cdv A outer s H vs Q E hr h => ?_)
  · obtain ⟨b, r, sz, m, c, row, rfl, _⟩ := h
    rfl
  · obtain ⟨b, r, sz, m, c, row, rfl, z1, z2, hm, hB, hc, nbr, hr0, hp, hl, k⟩ := h
    apply Exists.intro
    apply And.intro
    · apply pss_cons
      · exact (ps_set (i := 4) sc_law_line.nd rfl (.inl rfl) (pe_lst pa_nil))
      apply pss_cons
      · apply ps_for PassesOwn.never rfl
        · exact (pi_range1 (by rfl) T.n_range (pa_cons (pv 3) pa_nil))
        · exact (pg_name (i := 5) sc_law_line.nd rfl (.inl rfl))
        · apply pss_cons
          · exact (ps_set (i := 6) sc_law_line.nd rfl (.inl rfl) (pe_op op_cat (pe_op op_cat (pe_op op_rep (pe_lst (pa_cons (pe_call (ok_law_draw T) (hr.mono (by decide)) (by rfl) T.m_law_draw T.F_law_draw.kp T.b_law_draw .nil pass0 (pa_cons (pv 0) (pa_cons (pv 2) pa_nil))) pa_nil)) pe_int) (pe_slice (k_sl_list (K := K) rfl) (pv 1) (po_some (pe_un un_neg pe_int)) (po_some (pe_un un_neg pe_int)))) (pe_lst (pa_cons (pe_ix (k_ix_list (K := K) rfl) (pe_op op_cat (pv 1) (pe_lst (pa_cons pe_int pa_nil))) (pe_call (ok_law_draw T) (hr.mono (by decide)) (by rfl) T.m_law_draw T.F_law_draw.kp T.b_law_draw .nil pass0 (pa_cons (pv 0) (pa_cons (pe_op op_add (pe_callB (k_len (K := K) rfl) (by rfl) T.n_len PySem.boot_len (pa_cons (pv 1) pa_nil)) pe_int) pa_nil))) (fun _ _ => rfl)) pa_nil))))
          apply pss_one
          exact (ps_expr (k_bm (K := K) rfl (pe_bm PySem.F.plainAttrs_list PySem.F.slot_list_append PySem.F.type_list_append mt_append (pv 4) (pa_cons (pe_ix (k_ix_list (K := K) rfl) (pv 6) (pe_call (ok_law_draw T) (hr.mono (by decide)) (by rfl) T.m_law_draw T.F_law_draw.kp T.b_law_draw .nil pass0 (pa_cons (pv 0) (pa_cons (pe_callB (k_len (K := K) rfl) (by rfl) T.n_len PySem.boot_len (pa_cons (pv 6) pa_nil)) pa_nil))) (fun _ _ => rfl)) pa_nil))))
      apply pss_one
      exact (ps_ret (pv 4))
    walk_at "sx"
    refine ⟨by decide, fun f nf => ⟨by omega, by omega, ?_⟩⟩
    have ef := Ex.new nf (o := .lst [])
    have hf1 := upd_same (H := H) (a := f) (o := .lst [])
    have hB1 := hB.ex ef
    have hr1 := ef _ _ hr0
    obtain ⟨xb, hxb⟩ := hB.is
    have nbf : b ≠ f := ne_of_none hxb nf
    have nrf : r ≠ f := ne_of_none hr0 nf
    generalize (upd H f (.lst [])) = H1 at ef hf1 hB1 hr1 ⊢
    rw [Int.toNat_natCast]
    refine lg_rng (JLn H1 b r f sz m c) ⟨none, none, [], rfl, fun a o _ _ h => h, hB1, hf1, rfl, pg_nil _⟩ (fun i σ' H' hi hP => ?_) (fun σ' H' hP => ?_)
    · obtain ⟨l5, l6, ns, rfl, ke, bb, hf, ln, pn⟩ := hP
      simp only [x_gn, List.set_cons_zero, List.set_cons_succ]
      have hr' := ke _ _ nbr.symm nrf hr1
      refine seq_asg (fun v H2 => ∃ u us, v = .ref u ∧ Fx b H' H2 ∧ H' u = none ∧ H2 u = some (.lst ((us : List Int).map V.int)) ∧ Pg 40 us ∧ 1 ≤ us.length ∧ us.length ≤ 50 ∧ BagW H2 b (c + 3 * i + 2)) (fun R hR => ?_) (fun v H2 hC => ?_)
      · walk_at "sx"
        refine ⟨b, sz, _, rfl, by omega, by omega, bb, by omega, fun r1 H2 r1l f1 b1 => ?_⟩
        walk_at "sx"
        refine ⟨by decide, fun q1 nq1 => ?_⟩
        have e1 := Ex.new nq1 (o := .lst [V.int (r1 : Nat)])
        refine repE (k := 2) upd_same (by omega) (by simp) fun q2 H3 nq2 e2 hq2 => ?_
        have hr3 := e2 _ _ (e1 _ _ (f1 _ _ nbr.symm hr'))
        have b3 := (b1.ex e1).ex e2
        have fx3 := (f1.trans (Fx.of e1)).trans (Fx.of e2)
        refine slL (.inl (.inl hr3)) fun y ny => ?_
        obtain ⟨zs, hzs, hzm, hzl⟩ : ∃ zs : List Int, cutV (row.map V.int) (some (-2)) (some (-1)) = zs.map V.int ∧ (∀ z ∈ zs, z ∈ row) ∧ zs.length ≤ 40 := by
          have h1 : ∀ v ∈ cutV (row.map V.int) (some (-2)) (some (-1)), ∃ z : Int, v = .int z ∧ z ∈ row := fun v hv => by
            obtain ⟨z, hz, e⟩ := List.mem_map.mp (cutV_mem hv)
            exact ⟨z, e.symm, hz⟩
          have h2 := cutV_len (row.map V.int) (some (-2)) (some (-1))
          rw [List.length_map] at h2
          generalize cutV (row.map V.int) (some (-2)) (some (-1)) = vs at h1 h2
          have g : ∀ vs : List V, (∀ v ∈ vs, ∃ z : Int, v = .int z ∧ z ∈ row) → ∃ zs : List Int, vs = zs.map V.int ∧ ∀ z ∈ zs, z ∈ row := fun vs => by
            induction vs with
            | nil => exact fun _ => ⟨[], rfl, fun z h => by cases h⟩
            | cons v vs ih =>
              intro h
              obtain ⟨z, rfl, hz⟩ := h v List.mem_cons_self
              obtain ⟨zs, rfl, hm⟩ := ih fun v hv => h v (List.mem_cons_of_mem _ hv)
              exact ⟨z :: zs, rfl, fun y hy => (List.mem_cons.mp hy).elim (fun e => by rw [e]; exact hz) (hm y)⟩
          obtain ⟨zs, e, hm⟩ := g vs h1
          exact ⟨zs, e, hm, by rw [e, List.length_map] at h2; omega⟩
        rw [hzs]
        have ey := Ex.new ny (o := .lst (zs.map V.int))
        have er : (List.replicate 2 [V.int (r1 : Nat)]).flatten = ([(r1 : Int), (r1 : Int)]).map V.int := rfl
        rw [er] at hq2
        refine catL (ey _ _ hq2) upd_same (sz_ok (by simp; omega)) fun q3 nq3 => ⟨by decide, fun q4 nq4 => ?_⟩
        have e3 := Ex.new nq3 (o := .lst ([(r1 : Int), (r1 : Int)].map V.int ++ zs.map V.int))
        have e4 := Ex.new nq4 (o := .lst [V.int 0])
        refine catL (e4 _ _ (e3 _ _ (ey _ _ hr3))) upd_same (sz_ok (by simp; omega)) fun q5 nq5 => ?_
        have e5 := Ex.new nq5 (o := .lst (row.map V.int ++ [V.int 0]))
        have E5 := ((ey.trans e3).trans e4).trans e5
        have nq5b := (b3.ex ((ey.trans e3).trans e4)).apart nq5
        have nq3b := (b3.ex ey).apart nq3
        have hq5 := upd_same (H := upd (upd (upd H3 y (.lst (zs.map V.int))) q3 (.lst ([(r1 : Int), (r1 : Int)].map V.int ++ zs.map V.int))) q4 (.lst [V.int 0])) (a := q5) (o := .lst (row.map V.int ++ [V.int 0]))
        have hq35 := e5 _ _ (e4 _ _ (upd_same (H := upd H3 y (.lst (zs.map V.int))) (a := q3) (o := .lst ([(r1 : Int), (r1 : Int)].map V.int ++ zs.map V.int))))
        refine lenL (.inl (.inl (E5 _ _ hr3))) ?_
        have b5 := b3.ex E5
        have fx5 := fx3.trans (Fx.of E5)
        generalize (upd (upd (upd (upd H3 y (.lst (zs.map V.int))) q3 (.lst ([(r1 : Int), (r1 : Int)].map V.int ++ zs.map V.int))) q4 (.lst [V.int 0])) q5 (.lst (row.map V.int ++ [V.int 0]))) = H5 at E5 hq5 hq35 b5 fx5 ⊢
        walk_at "sx"
        refine ⟨b, row.length + 1, _, by rw [List.length_map]; rfl, by omega, by omega, b5, by omega, fun r3 H6 r3l f6 b6 => ?_⟩
        have hrow0 : row.map V.int ++ [V.int 0] = (row ++ [0]).map V.int := by rw [List.map_append]; rfl
        have hq6 := f6 _ _ nq5b hq5
        rw [hrow0] at hq6
        obtain ⟨x4, hx⟩ : ∃ x4, (row ++ [0])[r3]? = some x4 := ⟨_, List.getElem?_eq_getElem (by rw [List.length_append, List.length_singleton]; omega)⟩
        have hx40 : 0 ≤ x4 ∧ x4 < 40 := by
          rcases List.mem_append.mp (List.mem_of_getElem? hx) with h | h
          · exact hp _ h
          · rw [List.mem_singleton.mp h]; omega
        refine ixL (.inl (.inl hq6)) (atI_n (j := r3) (by omega) (at_ints hx)) ?_
        refine ⟨by decide, fun q7 nq7 => ?_⟩
        have e7 := Ex.new nq7 (o := .lst [V.int x4])
        have hq37 : H6 q3 = some (.lst ([(r1 : Int), (r1 : Int)].map V.int ++ zs.map V.int)) := f6 _ _ nq3b hq35
        refine catL (e7 _ _ hq37) upd_same (sz_ok (by simp; omega)) fun u nu => ?_
        refine hR _ _ ⟨u, [(r1 : Int), (r1 : Int)] ++ zs ++ [x4], rfl, (fx5.trans f6).trans ((Fx.of e7).trans (Fx.of (Ex.new nu))), ?_, by rw [upd_same, List.map_append, List.map_append]; rfl, fun z hz => ?_, by simp, by simp; omega, ((b6.ex e7).ex (Ex.new nu)).mono (by omega)⟩
        · have n6 := fresh_back e7 nu
          exact fx_none (fx5.trans f6) n6 (b6.apart n6)
        · rcases List.mem_append.mp hz with h | h
          · rcases List.mem_append.mp h with h | h
            · simp only [List.mem_cons, List.mem_nil_iff, or_false, or_self] at h
              rw [h]
              omega
            · exact hp _ (hzm _ h)
          · rw [List.mem_singleton.mp h]
            exact hx40
      obtain ⟨u, us, rfl, f2, nu, hu, pu, lu1, lu2, b2⟩ := hC
      have nbu : u ≠ b := fun e => by
        obtain ⟨xs, h⟩ := bb.is
        rw [← e, nu] at h
        cases h
      have nfu : u ≠ f := fun e => by rw [e, hf] at nu; cases nu
      walk_at "sx"
      have hf2 := f2 _ _ nbf.symm hf
      refine ⟨tyL hf2, ?_⟩
      refine lenL (.inl (.inl hu)) ?_
      refine ⟨b, us.length, _, by rw [List.length_map], by omega, by omega, b2, by omega, fun r2 H3 r2l f3 b3 => ?_⟩
      have hu3 := f3 _ _ nbu hu
      have hx : us[r2]? = some us[r2] := List.getElem?_eq_getElem r2l
      refine ixL (.inl (.inl hu3)) (atI_n (j := r2) (by omega) (at_ints hx)) ?_
      have hf3 := f3 _ _ nbf.symm hf2
      refine appL hf3 (BC.sz_lt (by rw [List.length_map]; omega)) ?_
      refine ⟨_, _, ns ++ [us[r2]], rfl, fun a o na nf h => ?_, ?_, ?_, by rw [List.length_append, ln]; rfl, fun y hy => ?_⟩
      · rw [upd_ne nf]
        exact f3 _ _ na (f2 _ _ na (ke _ _ na nf h))
      · exact (b3.kept fun o h => by rw [upd_ne nbf]; exact h).mono (by omega)
      · rw [upd_same, List.map_append]
        rfl
      · rcases List.mem_append.mp hy with h | h
        · exact pn y h
        · rw [List.mem_singleton.mp h]
          exact pu _ (List.mem_of_getElem? hx)
    · obtain ⟨l5, l6, ns, rfl, ke, bb, hf, ln, pn⟩ := hP
      walk_at "sx"
      exact k f ns _ nf (fun a o na h => ke _ _ na (ne_of_none h nf) (ef _ _ h)) (bb.mono (by omega)) hf ln pn
end
end LW

set_option Elab.async false
set_option linter.all false
set_option maxRecDepth 100000
set_option maxHeartbeats 4000000
namespace LW
open PySem PySem.Spec PyProof.Rows L2 BC Evl TR EF L2.DX SUX
local macro_rules | `(tactic| walk_at "sx") => `(tactic| try simp only [x_callV, x_lcV, x_callKS, BC.x_gtupV, x_methF, x_methF2, x_methR, x_propF, SUX.x_sup1, x_sortSetB, x_lenSetA, x_mulS, x_callS, x_makeS, x_makeKS, x_seq, x_next, x_brk, x_cnt, x_nev, x_ret, x_retN, x_drop, x_ifS, x_asg, x_gn, x_gsub, x_par, x_par3, x_aug, x_for, x_lc, x_rng1, x_rng2, x_rng3, x_ilist, x_itup, x_ienum, x_izip, x_izipA, x_istr, x_var, x_c, x_op, x_un, x_test, x_b, x_chain, x_and, x_or, x_not, x_andV, x_orV, x_notV, x_ife, x_nil, x_cons, x_lst, x_tup, x_cb, x_call, x_callK, x_bm, x_bm0, x_tru, x_sl, x_nopart, x_part, x_revL, x_I0, x_I, x_U, x_ip, x_ipC, x_eqI, x_neI, x_eqB, x_neB, x_eqS, x_neS, x_isB, x_isNB, x_lrg, x_gall, x_lenSet, x_sortSet, x_rg1, x_rg2, x_dnewK, x_dnewT, x_dget, x_dget1, x_dget2, x_din, x_dnotin, x_dput, x_ikeys, x_fld, x_sfld, x_prop, x_meth, x_make, x_dc, x_callO, x_callOK,
  L2.start, List.map_cons, List.map_nil, List.length_cons, List.length_nil, Nat.reduceAdd, Nat.reduceSub, Nat.sub_self, Nat.zero_add, List.replicate, List.replicate_succ, List.replicate_zero, List.append_nil, List.cons_append, List.nil_append, List.set_cons_zero, List.set_cons_succ, List.getElem?_cons_zero, List.getElem?_cons_succ, Option.some.injEq, V.int.injEq, V.bl.injEq, V.ref.injEq, V.str.injEq, List.cons.injEq, and_true, true_and, exists_eq_left', exists_eq_left, exists_and_left, exists_eq, if_true, if_false, ite_true, ite_false, Bool.true_eq_false, Bool.false_eq_true, reduceIte, reduceCtorEq, Bool.not_true, Bool.not_false, decide_true, decide_false, decide_eq_true_eq, Bool.and_true, Bool.true_and, Bool.and_self, Bool.and_false, Bool.false_and, Bool.or_self, Bool.or_false, Bool.false_or, Bool.or_true, Bool.true_or, eq_self])
section
variable {P : Program} {w : World} {K : PySem.W.Frag} {mg : Str → Option Value} {base : Heap}
def spVisL (T : Txt P K mg) : Sp := fun vs H Q E => ∃ (x p g : Addr) (k bd n : Nat) (s : List Int × List Int) (ps : List (List Int × List Int)) (xs : List V), vs = [.ref x, .ref g] ∧ LivAt T H k bd x p s ps ∧ SOk n s ∧ n + xs.length ≤ 5000 ∧ ps.length ≤ 5000 ∧ H g = some (.lst xs) ∧ xs.length ∈ [0, 1, 2, 3, 4, 6, 9, 10, 13, 20] ∧ (∀ v ∈ xs, ∀ H', Ex H H' → Kd K H' v) ∧
  (∀ ns : List Int, xs = ns.map V.int → Pg 40 ns → ∀ f H', H f = none → Fr2 x p H H' → H' f = some (.lst ((nwB (top k bd) s.1 ns).map V.bl)) → LivAt T H' k bd x p (plT (top k bd) s.1 ns, s.2 ++ ns) (ps ++ [s]) → Q (.ref f) H') ∧
  (xs.all (inR 0 39) = false → ∀ H', Ex H H' → E (.ref T.C_InvalidPageError) none H')
theorem ok_law_visit (T : Txt P K mg) : FnOk P w K mg base (L2N.CX P w) 11 T.f_law_visit T.fd_law_visit ["_law_one", "_law_g"] (spVisL T) := by
  refine okXN T.F_law_visit sc_law_visit (fun vs H Q E h => ?_) (fun cdv A outer s H vs Q E hr h => ?_)
  · obtain ⟨x, p, g, k, bd, n, s, ps, xs, rfl, _⟩ := h
    rfl
  · obtain ⟨x, p, g, k, bd, n, s, ps, xs, rfl, hx, so, hn, hps, hg, hlen, hkd, k1, k2⟩ := h
    apply Exists.intro
    apply And.intro
    · apply pss_cons
      · apply ps_if
        · exact (pt_cmpR op_eq (pe_callB (k_len (K := K) rfl) (by rfl) T.n_len PySem.boot_len (pa_cons (pv 1) pa_nil)) pe_int (by rfl))
        · apply pss_one
          exact (ps_ret (pe_methSt0 (K := K) rfl (pv 0) (ok_Trail_visit T) (hr.mono (by decide)) (fun σ => L2N.passAt (L2N.takes_of rfl rfl rfl rfl) σ)))
        · exact pss_nil
      apply pss_cons
      · apply ps_if
        · exact (pt_cmpR op_eq (pe_callB (k_len (K := K) rfl) (by rfl) T.n_len PySem.boot_len (pa_cons (pv 1) pa_nil)) pe_int (by rfl))
        · apply pss_one
          exact (ps_ret (pe_methSt (K := K) rfl (pv 0) (ok_Trail_visit T) (hr.mono (by decide)) (fun σ => L2N.passAt (L2N.takes_of rfl rfl rfl rfl) σ) (pa_cons (pe_ix (k_ix_list (K := K) rfl) (pv 1) pe_int (fun _ _ => rfl)) pa_nil)))
        · exact pss_nil
      apply pss_cons
      · apply ps_if
        · exact (pt_cmpR op_eq (pe_callB (k_len (K := K) rfl) (by rfl) T.n_len PySem.boot_len (pa_cons (pv 1) pa_nil)) pe_int (by rfl))
        · apply pss_one
          exact (ps_ret (pe_methSt (K := K) rfl (pv 0) (ok_Trail_visit T) (hr.mono (by decide)) (fun σ => L2N.passAt (L2N.takes_of rfl rfl rfl rfl) σ) (pa_cons (pe_ix (k_ix_list (K := K) rfl) (pv 1) pe_int (fun _ _ => rfl)) (pa_cons (pe_ix (k_ix_list (K := K) rfl) (pv 1) pe_int (fun _ _ => rfl)) pa_nil))))
        · exact pss_nil
      apply pss_cons
      · apply ps_if
        · exact (pt_cmpR op_eq (pe_callB (k_len (K := K) rfl) (by rfl) T.n_len PySem.boot_len (pa_cons (pv 1) pa_nil)) pe_int (by rfl))
        · apply pss_one
          exact (ps_ret (pe_methSt (K := K) rfl (pv 0) (ok_Trail_visit T) (hr.mono (by decide)) (fun σ => L2N.passAt (L2N.takes_of rfl rfl rfl rfl) σ) (pa_cons (pe_ix (k_ix_list (K := K) rfl) (pv 1) pe_int (fun _ _ => rfl)) (pa_cons (pe_ix (k_ix_list (K := K) rfl) (pv 1) pe_int (fun _ _ => rfl)) (pa_cons (pe_ix (k_ix_list (K := K) rfl) (pv 1) pe_int (fun _ _ => rfl)) pa_nil)))))
        · exact pss_nil
      apply pss_cons
      · apply ps_if
        · exact (pt_cmpR op_eq (pe_callB (k_len (K := K) rfl) (by rfl) T.n_len PySem.boot_len (pa_cons (pv 1) pa_nil)) pe_int (by rfl))
        · apply pss_one
          exact (ps_ret (pe_methSt (K := K) rfl (pv 0) (ok_Trail_visit T) (hr.mono (by decide)) (fun σ => L2N.passAt (L2N.takes_of rfl rfl rfl rfl) σ) (pa_cons (pe_ix (k_ix_list (K := K) rfl) (pv 1) pe_int (fun _ _ => rfl)) (pa_cons (pe_ix (k_ix_list (K := K) rfl) (pv 1) pe_int (fun _ _ => rfl)) (pa_cons (pe_ix (k_ix_list (K := K) rfl) (pv 1) pe_int (fun _ _ => rfl)) (pa_cons (pe_ix (k_ix_list (K := K) rfl) (pv 1) pe_int (fun _ _ => rfl)) pa_nil))))))
        · exact pss_nil
      apply pss_cons
      · apply ps_if
        · exact (pt_cmpR op_eq (pe_callB (k_len (K := K) rfl) (by rfl) T.n_len PySem.boot_len (pa_cons (pv 1) pa_nil)) pe_int (by rfl))
        · apply pss_one
          exact (ps_ret (pe_methSt (K := K) rfl (pv 0) (ok_Trail_visit T) (hr.mono (by decide)) (fun σ => L2N.passAt (L2N.takes_of rfl rfl rfl rfl) σ) (pa_cons (pe_ix (k_ix_list (K := K) rfl) (pv 1) pe_int (fun _ _ => rfl)) (pa_cons (pe_ix (k_ix_list (K := K) rfl) (pv 1) pe_int (fun _ _ => rfl)) (pa_cons (pe_ix (k_ix_list (K := K) rfl) (pv 1) pe_int (fun _ _ => rfl)) (pa_cons (pe_ix (k_ix_list (K := K) rfl) (pv 1) pe_int (fun _ _ => rfl)) (pa_cons (pe_ix (k_ix_list (K := K) rfl) (pv 1) pe_int (fun _ _ => rfl)) (pa_cons (pe_ix (k_ix_list (K := K) rfl) (pv 1) pe_int (fun _ _ => rfl)) pa_nil))))))))
        · exact pss_nil
      apply pss_cons
      · apply ps_if
        · exact (pt_cmpR op_eq (pe_callB (k_len (K := K) rfl) (by rfl) T.n_len PySem.boot_len (pa_cons (pv 1) pa_nil)) pe_int (by rfl))
        · apply pss_one
          exact (ps_ret (pe_methSt (K := K) rfl (pv 0) (ok_Trail_visit T) (hr.mono (by decide)) (fun σ => L2N.passAt (L2N.takes_of rfl rfl rfl rfl) σ) (pa_cons (pe_ix (k_ix_list (K := K) rfl) (pv 1) pe_int (fun _ _ => rfl)) (pa_cons (pe_ix (k_ix_list (K := K) rfl) (pv 1) pe_int (fun _ _ => rfl)) (pa_cons (pe_ix (k_ix_list (K := K) rfl) (pv 1) pe_int (fun _ _ => rfl)) (pa_cons (pe_ix (k_ix_list (K := K) rfl) (pv 1) pe_int (fun _ _ => rfl)) (pa_cons (pe_ix (k_ix_list (K := K) rfl) (pv 1) pe_int (fun _ _ => rfl)) (pa_cons (pe_ix (k_ix_list (K := K) rfl) (pv 1) pe_int (fun _ _ => rfl)) (pa_cons (pe_ix (k_ix_list (K := K) rfl) (pv 1) pe_int (fun _ _ => rfl)) (pa_cons (pe_ix (k_ix_list (K := K) rfl) (pv 1) pe_int (fun _ _ => rfl)) (pa_cons (pe_ix (k_ix_list (K := K) rfl) (pv 1) pe_int (fun _ _ => rfl)) pa_nil)))))))))))
        · exact pss_nil
      apply pss_cons
      · apply ps_if
        · exact (pt_cmpR op_eq (pe_callB (k_len (K := K) rfl) (by rfl) T.n_len PySem.boot_len (pa_cons (pv 1) pa_nil)) pe_int (by rfl))
        · apply pss_one
          exact (ps_ret (pe_methSt (K := K) rfl (pv 0) (ok_Trail_visit T) (hr.mono (by decide)) (fun σ => L2N.passAt (L2N.takes_of rfl rfl rfl rfl) σ) (pa_cons (pe_ix (k_ix_list (K := K) rfl) (pv 1) pe_int (fun _ _ => rfl)) (pa_cons (pe_ix (k_ix_list (K := K) rfl) (pv 1) pe_int (fun _ _ => rfl)) (pa_cons (pe_ix (k_ix_list (K := K) rfl) (pv 1) pe_int (fun _ _ => rfl)) (pa_cons (pe_ix (k_ix_list (K := K) rfl) (pv 1) pe_int (fun _ _ => rfl)) (pa_cons (pe_ix (k_ix_list (K := K) rfl) (pv 1) pe_int (fun _ _ => rfl)) (pa_cons (pe_ix (k_ix_list (K := K) rfl) (pv 1) pe_int (fun _ _ => rfl)) (pa_cons (pe_ix (k_ix_list (K := K) rfl) (pv 1) pe_int (fun _ _ => rfl)) (pa_cons (pe_ix (k_ix_list (K := K) rfl) (pv 1) pe_int (fun _ _ => rfl)) (pa_cons (pe_ix (k_ix_list (K := K) rfl) (pv 1) pe_int (fun _ _ => rfl)) (pa_cons (pe_ix (k_ix_list (K := K) rfl) (pv 1) pe_int (fun _ _ => rfl)) pa_nil))))))))))))
        · exact pss_nil
      apply pss_cons
      · apply ps_if
        · exact (pt_cmpR op_eq (pe_callB (k_len (K := K) rfl) (by rfl) T.n_len PySem.boot_len (pa_cons (pv 1) pa_nil)) pe_int (by rfl))
        · apply pss_one
          exact (ps_ret (pe_methSt (K := K) rfl (pv 0) (ok_Trail_visit T) (hr.mono (by decide)) (fun σ => L2N.passAt (L2N.takes_of rfl rfl rfl rfl) σ) (pa_cons (pe_ix (k_ix_list (K := K) rfl) (pv 1) pe_int (fun _ _ => rfl)) (pa_cons (pe_ix (k_ix_list (K := K) rfl) (pv 1) pe_int (fun _ _ => rfl)) (pa_cons (pe_ix (k_ix_list (K := K) rfl) (pv 1) pe_int (fun _ _ => rfl)) (pa_cons (pe_ix (k_ix_list (K := K) rfl) (pv 1) pe_int (fun _ _ => rfl)) (pa_cons (pe_ix (k_ix_list (K := K) rfl) (pv 1) pe_int (fun _ _ => rfl)) (pa_cons (pe_ix (k_ix_list (K := K) rfl) (pv 1) pe_int (fun _ _ => rfl)) (pa_cons (pe_ix (k_ix_list (K := K) rfl) (pv 1) pe_int (fun _ _ => rfl)) (pa_cons (pe_ix (k_ix_list (K := K) rfl) (pv 1) pe_int (fun _ _ => rfl)) (pa_cons (pe_ix (k_ix_list (K := K) rfl) (pv 1) pe_int (fun _ _ => rfl)) (pa_cons (pe_ix (k_ix_list (K := K) rfl) (pv 1) pe_int (fun _ _ => rfl)) (pa_cons (pe_ix (k_ix_list (K := K) rfl) (pv 1) pe_int (fun _ _ => rfl)) (pa_cons (pe_ix (k_ix_list (K := K) rfl) (pv 1) pe_int (fun _ _ => rfl)) (pa_cons (pe_ix (k_ix_list (K := K) rfl) (pv 1) pe_int (fun _ _ => rfl)) pa_nil)))))))))))))))
        · exact pss_nil
      apply pss_one
      exact (ps_ret (pe_methSt (K := K) rfl (pv 0) (ok_Trail_visit T) (hr.mono (by decide)) (fun σ => L2N.passAt (L2N.takes_of rfl rfl rfl rfl) σ) (pa_cons (pe_ix (k_ix_list (K := K) rfl) (pv 1) pe_int (fun _ _ => rfl)) (pa_cons (pe_ix (k_ix_list (K := K) rfl) (pv 1) pe_int (fun _ _ => rfl)) (pa_cons (pe_ix (k_ix_list (K := K) rfl) (pv 1) pe_int (fun _ _ => rfl)) (pa_cons (pe_ix (k_ix_list (K := K) rfl) (pv 1) pe_int (fun _ _ => rfl)) (pa_cons (pe_ix (k_ix_list (K := K) rfl) (pv 1) pe_int (fun _ _ => rfl)) (pa_cons (pe_ix (k_ix_list (K := K) rfl) (pv 1) pe_int (fun _ _ => rfl)) (pa_cons (pe_ix (k_ix_list (K := K) rfl) (pv 1) pe_int (fun _ _ => rfl)) (pa_cons (pe_ix (k_ix_list (K := K) rfl) (pv 1) pe_int (fun _ _ => rfl)) (pa_cons (pe_ix (k_ix_list (K := K) rfl) (pv 1) pe_int (fun _ _ => rfl)) (pa_cons (pe_ix (k_ix_list (K := K) rfl) (pv 1) pe_int (fun _ _ => rfl)) (pa_cons (pe_ix (k_ix_list (K := K) rfl) (pv 1) pe_int (fun _ _ => rfl)) (pa_cons (pe_ix (k_ix_list (K := K) rfl) (pv 1) pe_int (fun _ _ => rfl)) (pa_cons (pe_ix (k_ix_list (K := K) rfl) (pv 1) pe_int (fun _ _ => rfl)) (pa_cons (pe_ix (k_ix_list (K := K) rfl) (pv 1) pe_int (fun _ _ => rfl)) (pa_cons (pe_ix (k_ix_list (K := K) rfl) (pv 1) pe_int (fun _ _ => rfl)) (pa_cons (pe_ix (k_ix_list (K := K) rfl) (pv 1) pe_int (fun _ _ => rfl)) (pa_cons (pe_ix (k_ix_list (K := K) rfl) (pv 1) pe_int (fun _ _ => rfl)) (pa_cons (pe_ix (k_ix_list (K := K) rfl) (pv 1) pe_int (fun _ _ => rfl)) (pa_cons (pe_ix (k_ix_list (K := K) rfl) (pv 1) pe_int (fun _ _ => rfl)) (pa_cons (pe_ix (k_ix_list (K := K) rfl) (pv 1) pe_int (fun _ _ => rfl)) pa_nil))))))))))))))))))))))
    walk_at "sx"
    obtain ⟨dx, m, y1, y2, y3⟩ := id hx
    have l20 : xs.length ≤ 20 := by
      simp only [List.mem_cons, List.mem_nil_iff, or_false] at hlen
      omega
    have fin : spStar 1 (spVst T) (.ref x :: xs) H Q E := ⟨[.ref x], xs, rfl, rfl, sz_ok (by omega), fun p0 np => by
      have e := Ex.new np (o := .tup xs)
      exact ⟨x, p, p0, k, bd, n, s, ps, xs, rfl, hx.ex e, so, hn, hps, upd_same, fun v hv H' e2 => hkd v hv H' (e.trans e2), fun ns en pn f H' nf fr hf hl => k1 ns en pn f H' (fresh_back e nf) ((Fr2.of e).trans fr) hf hl, fun c H' e2 => k2 c H' (e.trans e2)⟩⟩
    have at_ : ∀ i : Nat, i < xs.length → ∀ {R : VK}, R (xs.getD i .non) H → rIxL K (.ref g) (.int (i : Nat)) H R := fun i hi R q => ixL (.inl (.inl hg)) (atI_n (j := i) rfl (by rw [List.getD_eq_getElem?_getD, List.getElem?_eq_getElem hi]; rfl)) q
    have all_ : ∀ j, xs.length = j → (List.range j).map (fun i => xs.getD i .non) = xs := fun j hj => by
      rw [← hj]
      exact dblV V.non xs
    refine lenL (.inl (.inl hg)) ?_
    walk_at "sx"
    by_cases c0 : xs.length = 0
    · rw [if_pos (by omega)]
      refine ⟨_, _, _, y1, fl_no _ _ _ _ (by decide +kernel) (by decide +kernel) (by decide +kernel), (knd T k).cl, T.m_Trail_visit _ (kcl_mem T k), ?_⟩
      have ea := all_ 0 c0
      rw [← ea] at fin
      exact fin
    rw [if_neg (by omega)]
    refine lenL (.inl (.inl hg)) ?_
    walk_at "sx"
    by_cases c1 : xs.length = 1
    · rw [if_pos (by omega)]
      refine ⟨_, _, _, y1, fl_no _ _ _ _ (by decide +kernel) (by decide +kernel) (by decide +kernel), (knd T k).cl, T.m_Trail_visit _ (kcl_mem T k), ?_⟩
      refine at_ 0 (by omega) ?_
      have ea := all_ 1 c1
      rw [← ea] at fin
      exact fin
    rw [if_neg (by omega)]
    refine lenL (.inl (.inl hg)) ?_
    walk_at "sx"
    by_cases c2 : xs.length = 2
    · rw [if_pos (by omega)]
      refine ⟨_, _, _, y1, fl_no _ _ _ _ (by decide +kernel) (by decide +kernel) (by decide +kernel), (knd T k).cl, T.m_Trail_visit _ (kcl_mem T k), ?_⟩
      refine at_ 0 (by omega) ?_
      refine at_ 1 (by omega) ?_
      have ea := all_ 2 c2
      rw [← ea] at fin
      exact fin
    rw [if_neg (by omega)]
    refine lenL (.inl (.inl hg)) ?_
    walk_at "sx"
    by_cases c3 : xs.length = 3
    · rw [if_pos (by omega)]
      refine ⟨_, _, _, y1, fl_no _ _ _ _ (by decide +kernel) (by decide +kernel) (by decide +kernel), (knd T k).cl, T.m_Trail_visit _ (kcl_mem T k), ?_⟩
      refine at_ 0 (by omega) ?_
      refine at_ 1 (by omega) ?_
      refine at_ 2 (by omega) ?_
      have ea := all_ 3 c3
      rw [← ea] at fin
      exact fin
    rw [if_neg (by omega)]
    refine lenL (.inl (.inl hg)) ?_
    walk_at "sx"
    by_cases c4 : xs.length = 4
    · rw [if_pos (by omega)]
      refine ⟨_, _, _, y1, fl_no _ _ _ _ (by decide +kernel) (by decide +kernel) (by decide +kernel), (knd T k).cl, T.m_Trail_visit _ (kcl_mem T k), ?_⟩
      refine at_ 0 (by omega) ?_
      refine at_ 1 (by omega) ?_
      refine at_ 2 (by omega) ?_
      refine at_ 3 (by omega) ?_
      have ea := all_ 4 c4
      rw [← ea] at fin
      exact fin
    rw [if_neg (by omega)]
    refine lenL (.inl (.inl hg)) ?_
    walk_at "sx"
    by_cases c6 : xs.length = 6
    · rw [if_pos (by omega)]
      refine ⟨_, _, _, y1, fl_no _ _ _ _ (by decide +kernel) (by decide +kernel) (by decide +kernel), (knd T k).cl, T.m_Trail_visit _ (kcl_mem T k), ?_⟩
      refine at_ 0 (by omega) ?_
      refine at_ 1 (by omega) ?_
      refine at_ 2 (by omega) ?_
      refine at_ 3 (by omega) ?_
      refine at_ 4 (by omega) ?_
      refine at_ 5 (by omega) ?_
      have ea := all_ 6 c6
      rw [← ea] at fin
      exact fin
    rw [if_neg (by omega)]
    refine lenL (.inl (.inl hg)) ?_
    walk_at "sx"
    by_cases c9 : xs.length = 9
    · rw [if_pos (by omega)]
      refine ⟨_, _, _, y1, fl_no _ _ _ _ (by decide +kernel) (by decide +kernel) (by decide +kernel), (knd T k).cl, T.m_Trail_visit _ (kcl_mem T k), ?_⟩
      refine at_ 0 (by omega) ?_
      refine at_ 1 (by omega) ?_
      refine at_ 2 (by omega) ?_
      refine at_ 3 (by omega) ?_
      refine at_ 4 (by omega) ?_
      refine at_ 5 (by omega) ?_
      refine at_ 6 (by omega) ?_
      refine at_ 7 (by omega) ?_
      refine at_ 8 (by omega) ?_
      have ea := all_ 9 c9
      rw [← ea] at fin
      exact fin
    rw [if_neg (by omega)]
    refine lenL (.inl (.inl hg)) ?_
    walk_at "sx"
    by_cases c10 : xs.length = 10
    · rw [if_pos (by omega)]
      refine ⟨_, _, _, y1, fl_no _ _ _ _ (by decide +kernel) (by decide +kernel) (by decide +kernel), (knd T k).cl, T.m_Trail_visit _ (kcl_mem T k), ?_⟩
      refine at_ 0 (by omega) ?_
      refine at_ 1 (by omega) ?_
      refine at_ 2 (by omega) ?_
      refine at_ 3 (by omega) ?_
      refine at_ 4 (by omega) ?_
      refine at_ 5 (by omega) ?_
      refine at_ 6 (by omega) ?_
      refine at_ 7 (by omega) ?_
      refine at_ 8 (by omega) ?_
      refine at_ 9 (by omega) ?_
      have ea := all_ 10 c10
      rw [← ea] at fin
      exact fin
    rw [if_neg (by omega)]
    refine lenL (.inl (.inl hg)) ?_
    walk_at "sx"
    by_cases c13 : xs.length = 13
    · rw [if_pos (by omega)]
      refine ⟨_, _, _, y1, fl_no _ _ _ _ (by decide +kernel) (by decide +kernel) (by decide +kernel), (knd T k).cl, T.m_Trail_visit _ (kcl_mem T k), ?_⟩
      refine at_ 0 (by omega) ?_
      refine at_ 1 (by omega) ?_
      refine at_ 2 (by omega) ?_
      refine at_ 3 (by omega) ?_
      refine at_ 4 (by omega) ?_
      refine at_ 5 (by omega) ?_
      refine at_ 6 (by omega) ?_
      refine at_ 7 (by omega) ?_
      refine at_ 8 (by omega) ?_
      refine at_ 9 (by omega) ?_
      refine at_ 10 (by omega) ?_
      refine at_ 11 (by omega) ?_
      refine at_ 12 (by omega) ?_
      have ea := all_ 13 c13
      rw [← ea] at fin
      exact fin
    rw [if_neg (by omega)]
    have c20 : xs.length = 20 := by
      simp only [List.mem_cons, List.mem_nil_iff, or_false] at hlen
      omega
    walk_at "sx"
    refine ⟨_, _, _, y1, fl_no _ _ _ _ (by decide +kernel) (by decide +kernel) (by decide +kernel), (knd T k).cl, T.m_Trail_visit _ (kcl_mem T k), ?_⟩
    refine at_ 0 (by omega) ?_
    refine at_ 1 (by omega) ?_
    refine at_ 2 (by omega) ?_
    refine at_ 3 (by omega) ?_
    refine at_ 4 (by omega) ?_
    refine at_ 5 (by omega) ?_
    refine at_ 6 (by omega) ?_
    refine at_ 7 (by omega) ?_
    refine at_ 8 (by omega) ?_
    refine at_ 9 (by omega) ?_
    refine at_ 10 (by omega) ?_
    refine at_ 11 (by omega) ?_
    refine at_ 12 (by omega) ?_
    refine at_ 13 (by omega) ?_
    refine at_ 14 (by omega) ?_
    refine at_ 15 (by omega) ?_
    refine at_ 16 (by omega) ?_
    refine at_ 17 (by omega) ?_
    refine at_ 18 (by omega) ?_
    refine at_ 19 (by omega) ?_
    have ea := all_ 20 c20
    rw [← ea] at fin
    exact fin
end
end LW

set_option Elab.async false
set_option linter.all false
set_option maxRecDepth 100000
set_option maxHeartbeats 4000000
namespace LW
open PySem PySem.Spec PyProof.Rows L2 BC Evl TR EF L2.DX SUX
local macro_rules | `(tactic| walk_at "sx") => `(tactic| try simp only [x_callV, x_lcV, x_callKS, BC.x_gtupV, x_methF, x_methF2, x_methR, x_propF, SUX.x_sup1, x_sortSetB, x_lenSetA, x_mulS, x_callS, x_makeS, x_makeKS, x_seq, x_next, x_brk, x_cnt, x_nev, x_ret, x_retN, x_drop, x_ifS, x_asg, x_gn, x_gsub, x_par, x_par3, x_aug, x_for, x_lc, x_rng1, x_rng2, x_rng3, x_ilist, x_itup, x_ienum, x_izip, x_izipA, x_istr, x_var, x_c, x_op, x_un, x_test, x_b, x_chain, x_and, x_or, x_not, x_andV, x_orV, x_notV, x_ife, x_nil, x_cons, x_lst, x_tup, x_cb, x_call, x_callK, x_bm, x_bm0, x_tru, x_sl, x_nopart, x_part, x_revL, x_I0, x_I, x_U, x_ip, x_ipC, x_eqI, x_neI, x_eqB, x_neB, x_eqS, x_neS, x_isB, x_isNB, x_lrg, x_gall, x_lenSet, x_sortSet, x_rg1, x_rg2, x_dnewK, x_dnewT, x_dget, x_dget1, x_dget2, x_din, x_dnotin, x_dput, x_ikeys, x_fld, x_sfld, x_prop, x_meth, x_make, x_dc, x_callO, x_callOK,
  L2.start, List.map_cons, List.map_nil, List.length_cons, List.length_nil, Nat.reduceAdd, Nat.reduceSub, Nat.sub_self, Nat.zero_add, List.replicate, List.replicate_succ, List.replicate_zero, List.append_nil, List.cons_append, List.nil_append, List.set_cons_zero, List.set_cons_succ, List.getElem?_cons_zero, List.getElem?_cons_succ, Option.some.injEq, V.int.injEq, V.bl.injEq, V.ref.injEq, V.str.injEq, List.cons.injEq, and_true, true_and, exists_eq_left', exists_eq_left, exists_and_left, exists_eq, if_true, if_false, ite_true, ite_false, Bool.true_eq_false, Bool.false_eq_true, reduceIte, reduceCtorEq, Bool.not_true, Bool.not_false, decide_true, decide_false, decide_eq_true_eq, Bool.and_true, Bool.true_and, Bool.and_self, Bool.and_false, Bool.false_and, Bool.or_self, Bool.or_false, Bool.false_or, Bool.or_true, Bool.true_or, eq_self])
section
variable {P : Program} {w : World} {K : PySem.W.Frag} {mg : Str → Option Value} {base : Heap}
theorem si_ints (l : List Int) (h : l.length ≤ 100000) : Si 2 (.list (l.map PyData.int)) := .lst (by rw [List.length_map]; exact h) fun d hd => by
  obtain ⟨z, _, rfl⟩ := List.mem_map.mp hd
  exact .int _ _
theorem si_seen {S : List Int × List Int} (so : SOk 6000 S) : Si 3 (dSeen S) := by
  have l1 := so.l40
  have l2 := so.ln
  have l3 := exs_len40 S.2
  have l4 : (srt S.1).length ≤ 40 := by
    unfold srt
    have := List.length_filter_le (fun p => decide (p ∈ S.1)) ((List.range 40).map fun i : Nat => (i : Int))
    rw [List.length_map, List.length_range] at this
    exact this
  refine .lst (by show (6 : Nat) ≤ _; omega) fun d hd => ?_
  simp only [List.mem_cons, List.mem_nil_iff, or_false] at hd
  rcases hd with rfl | rfl | rfl | rfl | rfl | rfl
  · exact si_ints _ (by omega)
  · exact si_ints _ (by omega)
  · cases S.2 with
    | nil => exact .non _
    | cons a r => exact .int _ _
  · refine .lst (by rw [List.length_map]; omega) fun d hd => ?_
    obtain ⟨q, _, rfl⟩ := List.mem_map.mp hd
    refine .tup (by show (2 : Nat) ≤ _; omega) fun d hd => ?_
    simp only [List.mem_cons, List.mem_nil_iff, or_false] at hd
    rcases hd with rfl | rfl
    · exact .int _ _
    · exact .int _ _
  · exact .int _ _
  · exact si_ints _ (by omega)
end
section
variable {P : Program} {w : World} {K : PySem.W.Frag} {mg : Str → Option Value} {base : Heap}
theorem dp_bools {K : PySem.W.Frag} {H : Hp} : ∀ bs : List Bool, DpAll K H (bs.map V.bl) (bs.map PyData.bool)
  | [] => .nil
  | b :: bs => .cons (.bl b) (dp_bools bs)
theorem si_bools3 (l : List Bool) (h : l.length ≤ 100000) : Si 3 (.list (l.map PyData.bool)) := .lst (by rw [List.length_map]; exact h) fun d hd => by
  obtain ⟨z, _, rfl⟩ := List.mem_map.mp hd
  exact .bl _ _
theorem all_pg {ns : List Int} (h : Pg 40 ns) : (ns.map V.int).all (inR 0 39) = true := by
  rw [List.all_eq_true]
  intro v hv
  obtain ⟨z, hz, rfl⟩ := List.mem_map.mp hv
  have := h z hz
  show (decide (0 ≤ z) && decide (z ≤ 39)) = true
  rw [Bool.and_eq_true, decide_eq_true_eq, decide_eq_true_eq]
  omega
/-- apart from what changes: the draws, the live trail, its past -/
def Ap3 (b x p a : Addr) : Prop := a ≠ b ∧ a ≠ x ∧ a ≠ p
def StT (H : Hp) (b x p t : Addr) (s : List Int × List Int) : Prop := ∃ r d, H t = some (.tup [.ref r, .ref d]) ∧ H r = some (.lst (s.1.map V.int)) ∧ H d = some (.lst (s.2.map V.int)) ∧ Ap3 b x p t ∧ Ap3 b x p r ∧ Ap3 b x p d
def Fr3 (b x p : Addr) (H H' : Hp) : Prop := ∀ a o, Ap3 b x p a → H a = some o → H' a = some o
theorem Fr3.trans {b x p : Addr} {H H1 H2 : Hp} (f : Fr3 b x p H H1) (g : Fr3 b x p H1 H2) : Fr3 b x p H H2 := fun a o ap h => g a o ap (f a o ap h)
theorem Fr3.of {b x p : Addr} {H H1 : Hp} (e : Ex H H1) : Fr3 b x p H H1 := fun a o ap h => e a o h
theorem Fr3.fx {b x p : Addr} {H H1 : Hp} (e : Fx b H H1) : Fr3 b x p H H1 := fun a o ap h => e a o ap.1 h
theorem Fr3.f2 {b x p : Addr} {H H1 : Hp} (e : Fr2 x p H H1) : Fr3 b x p H H1 := fun a o ap h => e a o ap.2.1 ap.2.2 h
theorem StT.fr {H H' : Hp} {b x p t : Addr} {s : List Int × List Int} (h : StT H b x p t s) (f : Fr3 b x p H H') : StT H' b x p t s := by
  obtain ⟨r, d, h1, h2, h3, a1, a2, a3⟩ := h
  exact ⟨r, d, f _ _ a1 h1, f _ _ a2 h2, f _ _ a3 h3, a1, a2, a3⟩
def sizes17 : List V := [.int 0, .int 1, .int 2, .int 3, .int 10, .int 20, .int 4, .int 6, .int 9, .int 13]
theorem size17 {i : Nat} (h : i < 10) : ∃ m : Nat, sizes17[i]? = some (.int (m : Nat)) ∧ m ∈ [0, 1, 2, 3, 4, 6, 9, 10, 13, 20] ∧ m ≤ 20 := by
  match i, h with
  | 0, _ => exact ⟨0, rfl, by simp, by omega⟩
  | 1, _ => exact ⟨1, rfl, by simp, by omega⟩
  | 2, _ => exact ⟨2, rfl, by simp, by omega⟩
  | 3, _ => exact ⟨3, rfl, by simp, by omega⟩
  | 4, _ => exact ⟨10, rfl, by simp, by omega⟩
  | 5, _ => exact ⟨20, rfl, by simp, by omega⟩
  | 6, _ => exact ⟨4, rfl, by simp, by omega⟩
  | 7, _ => exact ⟨6, rfl, by simp, by omega⟩
  | 8, _ => exact ⟨9, rfl, by simp, by omega⟩
  | 9, _ => exact ⟨13, rfl, by simp, by omega⟩
def JHo (T : Txt P K mg) (b sc x p q : Addr) (sz : Nat) (G : Hp) (i : Nat) (σ' : L2.St) (H' : Hp) : Prop := ∃ l3 l7 l8 l9 l10 t ss s, σ' = [some (.ref b), some (.ref sc), some (.ref q), l3, some (.ref x), some (.ref t), some (.int sz), l7, l8, l9, l10] ∧ Fr3 b x p G H' ∧ BagW H' b (10 + 100 * i) ∧ LivAt T H' 0 0 x p s ss ∧ StT H' b x p t s ∧ SOk (20 * i) s ∧ ss.length ≤ i
def spHold (K : PySem.W.Frag) : Sp := fun vs H Q _ => ∃ (b sc : Addr) (ns : List Int) (H0 : Hp), vs = [.ref b, .ref sc] ∧ BagW H b 0 ∧ SqL K H0 sc (ns.map V.int) ∧ H0 b = none ∧ Ex H0 H ∧ ∀ H', Ex (hidB b H) H' → Q (.bl true) H'
theorem ok_law_holds (T : Txt P K mg) : FnOk P w K mg base CX0 12 T.f_law_holds T.fd_law_holds ["_law_source_here", "_law_script"] (spHold K) := by
  refine T.F_law_holds.ok sc_law_holds (fun vs H Q E h => ?_) (fun cdv A outer s H vs Q E hr h => ?_)
  · obtain ⟨b, sc, ns, H0, rfl, _⟩ := h
    rfl
  · obtain ⟨b, sc, ns, H0, rfl, hB, hsc, nb0, e0, k⟩ := h
    apply Exists.intro
    apply And.intro
    · apply pss_cons
      · exact (ps_par3 (i := 4) (j := 5) (l := 6) (by rfl) sc_law_holds.nd rfl rfl rfl (by decide) (by decide) (by decide) rfl rfl rfl (pa_cons (pe_make0 T.M_Trail (ok_Trail___init T) (hr.mono (by decide)) (by rfl) T.g_Trail T.b_Trail___init .nil pass0) (pa_cons (pe_tup (pa_cons (pe_lst pa_nil) (pa_cons (pe_lst pa_nil) pa_nil))) (pa_cons (pe_ix (k_ix_list (K := K) rfl) (pe_lst (pa_cons pe_int (pa_cons pe_int (pa_cons pe_int pa_nil)))) (pe_call (ok_law_draw T) (hr.mono (by decide)) (by rfl) T.m_law_draw T.F_law_draw.kp T.b_law_draw .nil pass0 (pa_cons (pv 0) (pa_cons pe_int pa_nil))) (fun _ _ => rfl)) pa_nil))) (by rfl))
      apply pss_cons
      · exact (ps_set (i := 2) sc_law_holds.nd rfl (.inl rfl) (pe_lst (pa_cons pe_int (pa_cons pe_int (pa_cons pe_int (pa_cons pe_int (pa_cons pe_int (pa_cons pe_int (pa_cons pe_int (pa_cons pe_int (pa_cons pe_int (pa_cons pe_int pa_nil))))))))))))
      apply pss_cons
      · apply ps_for PassesOwn.never rfl
        · exact (pi_range1 (by rfl) T.n_range (pa_cons (pe_ifExp (pt_cmpR (k_eqD (K := K) rfl hr.units) (pv 1) (pe_lst pa_nil) (by rfl)) pe_int pe_int) pa_nil))
        · exact (pg_name (i := 3) sc_law_holds.nd rfl (.inl rfl))
        · apply pss_cons
          · exact (ps_set (i := 7) sc_law_holds.nd rfl (.inl rfl) (pe_ifExp (pt_cmpR op_lt (pv 3) pe_int (by rfl)) (pe_ix (k_ix_list (K := K) rfl) (pv 2) (pv 3) (fun _ _ => rfl)) (pe_ix (k_ix_list (K := K) rfl) (pv 2) (pe_call (ok_law_draw T) (hr.mono (by decide)) (by rfl) T.m_law_draw T.F_law_draw.kp T.b_law_draw .nil pass0 (pa_cons (pv 0) (pa_cons pe_int pa_nil))) (fun _ _ => rfl))))
          apply pss_cons
          · exact (ps_set (i := 8) sc_law_holds.nd rfl (.inl rfl) (pe_call (ok_law_line T) (hr.mono (by decide)) (by rfl) T.m_law_line T.F_law_line.kp T.b_law_line .nil pass0 (pa_cons (pv 0) (pa_cons (pe_ix (k_ix_tup (K := K) rfl) (pv 5) pe_int (fun _ _ => rfl)) (pa_cons (pv 6) (pa_cons (pv 7) pa_nil))))))
          apply pss_cons
          · exact (ps_asg (pe_call (ok_law_played T) (hr.mono (by decide)) (by rfl) T.m_law_played T.F_law_played.kp T.b_law_played .nil pass0 (pa_cons (pv 5) (pa_cons (pv 8) (pa_cons pe_int pa_nil)))) (k_tup (K := K) (n := 2) rfl rfl (pgs_cons (pg_name (i := 9) sc_law_holds.nd rfl (.inl rfl)) (pgs_cons (pg_name (i := 10) sc_law_holds.nd rfl (.inl rfl)) pgs_nil))))
          apply pss_cons
          · apply ps_if
            · exact (PW.pt (pw_or (pt_not (pt_val (pe_call (ok_law_same T) (hr.mono (by decide)) (by rfl) T.m_law_same T.F_law_same.kp T.b_law_same .nil pass0 (pa_cons (pe_callS (ok_law_visit T) (hr.mono (by decide)) (by rfl) T.m_law_visit T.F_law_visit.kp T.b_law_visit (fun σ => L2N.passAt takes0N σ) (pa_cons (pv 4) (pa_cons (pv 8) pa_nil))) (pa_cons (pv 10) pa_nil))))) (pw_or1 (pt_not (pt_val (pe_call (ok_law_same T) (hr.mono (by decide)) (by rfl) T.m_law_same T.F_law_same.kp T.b_law_same .nil pass0 (pa_cons (pe_call (ok_law_seen T) (hr.mono (by decide)) (by rfl) T.m_law_seen T.F_law_seen.kp T.b_law_seen .nil pass0 (pa_cons (pv 4) pa_nil)) (pa_cons (pe_call (ok_law_due T) (hr.mono (by decide)) (by rfl) T.m_law_due T.F_law_due.kp T.b_law_due .nil pass0 (pa_cons (pv 9) pa_nil)) pa_nil))))))))
            · apply pss_one
              exact (ps_ret pe_bl)
            · exact pss_nil
          apply pss_cons
          · exact (ps_expr (pe_methF0 (K := K) rfl (pv 4) (ok_Trail_undo T) (hr.mono (by decide)) T.b_Trail_undo .nil (fun σ => L2N.passAt takes0N σ)))
          apply pss_cons
          · apply ps_if
            · exact (pt_not (pt_val (pe_call (ok_law_same T) (hr.mono (by decide)) (by rfl) T.m_law_same T.F_law_same.kp T.b_law_same .nil pass0 (pa_cons (pe_call (ok_law_seen T) (hr.mono (by decide)) (by rfl) T.m_law_seen T.F_law_seen.kp T.b_law_seen .nil pass0 (pa_cons (pv 4) pa_nil)) (pa_cons (pe_call (ok_law_due T) (hr.mono (by decide)) (by rfl) T.m_law_due T.F_law_due.kp T.b_law_due .nil pass0 (pa_cons (pv 5) pa_nil)) pa_nil)))))
            · apply pss_one
              exact (ps_ret pe_bl)
            · exact pss_nil
          apply pss_cons
          · apply ps_if
            · exact (PW.pt (pw_or (pt_not (pt_val (pe_call (ok_law_same T) (hr.mono (by decide)) (by rfl) T.m_law_same T.F_law_same.kp T.b_law_same .nil pass0 (pa_cons (pe_callS (ok_law_visit T) (hr.mono (by decide)) (by rfl) T.m_law_visit T.F_law_visit.kp T.b_law_visit (fun σ => L2N.passAt takes0N σ) (pa_cons (pv 4) (pa_cons (pv 8) pa_nil))) (pa_cons (pv 10) pa_nil))))) (pw_or1 (pt_not (pt_val (pe_call (ok_law_same T) (hr.mono (by decide)) (by rfl) T.m_law_same T.F_law_same.kp T.b_law_same .nil pass0 (pa_cons (pe_call (ok_law_seen T) (hr.mono (by decide)) (by rfl) T.m_law_seen T.F_law_seen.kp T.b_law_seen .nil pass0 (pa_cons (pv 4) pa_nil)) (pa_cons (pe_call (ok_law_due T) (hr.mono (by decide)) (by rfl) T.m_law_due T.F_law_due.kp T.b_law_due .nil pass0 (pa_cons (pv 9) pa_nil)) pa_nil))))))))
            · apply pss_one
              exact (ps_ret pe_bl)
            · exact pss_nil
          apply pss_one
          exact (ps_set (i := 5) sc_law_holds.nd rfl (.inl rfl) (pv 9))
      apply pss_one
      exact (ps_ret (pe_cmpR (k_eqD (K := K) rfl hr.units) (pe_propF (K := K) (p := T.q_Trail_visits) rfl (pv 4) (ok_Trail_visits T) (hr.mono (by decide)) T.b_Trail_visits pass0 rfl) (pe_ix (k_ix_tup (K := K) rfl) (pv 5) pe_int (fun _ _ => rfl)) (by rfl)))
    refine seq_cut (fun σ' H' => ∃ (x p t : Addr) (sz : Nat), σ' = [some (.ref b), some (.ref sc), none, none, some (.ref x), some (.ref t), some (.int sz), none, none, none, none] ∧ 0 < sz ∧ sz ≤ 40 ∧ H x = none ∧ H p = none ∧ Fx b H H' ∧ BagW H' b 3 ∧ LivAt T H' 0 0 x p ([], []) [] ∧ StT H' b x p t ([], [])) (fun N hN => ?_) (fun σ1 H1 hC => ?_)
    · walk_at "sx"
      refine fun x dx nx ndx ne => ?_
      refine ⟨x, T.C_Trail, dx, rfl, knd T 0, upd_same, fun n p H1 np kp hx nw hp => ⟨rfl, ?_⟩⟩
      have nxp : p ≠ x := (ne_of_none upd_same np).symm
      have ndp : p ≠ dx := fun e => by
        rw [e, upd_ne ne, upd_same] at np
        cases np
      have npH : H p = none := by rw [upd_ne nxp, upd_ne ndp] at np; exact np
      have e1 : Ex H H1 := make_ex (C := T.C_Trail) nx ndx kp
      have L1 : LivAt T H1 0 0 x p ([], []) [] := ⟨dx, n, hx, nw, [], hp, rfl, fun i q s a _ => by simp at a⟩
      have B1 := hB.ex e1
      refine ⟨by decide, fun r nr => ⟨by decide, fun d nd => ⟨by decide, fun t nt => ⟨by decide, fun q nq => ?_⟩⟩⟩⟩
      have g1 := Ex.new nr (o := .lst [])
      have g2 := Ex.new nd (o := .lst [])
      have g3 := Ex.new nt (o := .tup [V.ref r, V.ref d])
      have g4 := Ex.new nq (o := .lst [V.int 3, V.int 12, V.int 40])
      have hr1 := upd_same (H := H1) (a := r) (o := .lst [])
      have hd1 := upd_same (H := upd H1 r (.lst [])) (a := d) (o := .lst [])
      have ht1 := upd_same (H := upd (upd H1 r (.lst [])) d (.lst [])) (a := t) (o := .tup [V.ref r, V.ref d])
      have hq1 := upd_same (H := upd (upd (upd H1 r (.lst [])) d (.lst [])) t (.tup [V.ref r, V.ref d])) (a := q) (o := .lst [V.int 3, V.int 12, V.int 40])
      have E4 := ((g1.trans g2).trans g3).trans g4
      obtain ⟨xb, hb⟩ := B1.is
      obtain ⟨xp, hpp⟩ := L1.pst
      obtain ⟨Cx, dxx, fsx, hxx⟩ := L1.self
      have ap : ∀ {G : Hp} {a : Addr}, Ex H1 G → G a = none → Ap3 b x p a := fun e n => ⟨(ne_of_none (e _ _ hb) n).symm, (ne_of_none (e _ _ hxx) n).symm, (ne_of_none (e _ _ hpp) n).symm⟩
      have nbp : b ≠ p := by
        obtain ⟨xb0, hb0⟩ := hB.is
        exact ne_of_none hb0 npH
      refine ⟨b, 3, _, rfl, by omega, by omega, B1.ex E4, by omega, fun r3 H3 l3 f3 b3 => ?_⟩
      have nqb := (ap ((g1.trans g2).trans g3) nq).1
      have hq3 := f3 _ _ nqb hq1
      obtain ⟨sz, hs, s1, s2⟩ : ∃ sz : Nat, ([V.int 3, V.int 12, V.int 40] : List V)[r3]? = some (.int (sz : Nat)) ∧ 0 < sz ∧ sz ≤ 40 := by
        match r3, l3 with
        | 0, _ => exact ⟨3, rfl, by omega, by omega⟩
        | 1, _ => exact ⟨12, rfl, by omega, by omega⟩
        | 2, _ => exact ⟨40, rfl, by omega, by omega⟩
      refine ixL (.inl (.inl hq3)) (atI_n (j := r3) rfl hs) ?_
      have S4 : StT (upd (upd (upd (upd H1 r (.lst [])) d (.lst [])) t (.tup [V.ref r, V.ref d])) q (.lst [V.int 3, V.int 12, V.int 40])) b x p t ([], []) := ⟨r, d, g4 _ _ ht1, g4 _ _ (g3 _ _ (g2 _ _ hr1)), g4 _ _ (g3 _ _ hd1), ap (g1.trans g2) nt, ap (Ex.refl _) nr, ap g1 nd⟩
      exact ⟨_, _, _, ⟨rfl, rfl, rfl⟩, hN _ _ ⟨x, p, t, sz, rfl, s1, s2, nx, npH, (Fx.of (e1.trans E4)).trans f3, b3.mono (by omega), (L1.ex E4).fx ((E4 _ _ hb)) nbp.symm f3, S4.fr (Fr3.fx f3)⟩⟩
    obtain ⟨x, p, t, sz, rfl, z1, z2, nx, np, f1, B1, L1, S1⟩ := hC
    refine seq_asg (fun v H' => ∃ q, v = .ref q ∧ H1 q = none ∧ Ex H1 H' ∧ H' q = some (.lst sizes17)) (fun R hR => ?_) (fun v H2 hC => ?_)
    · walk_at "sx"
      exact ⟨by decide, fun q nq => hR _ _ ⟨q, rfl, nq, Ex.new nq, upd_same⟩⟩
    obtain ⟨q, rfl, nq, e2, hq⟩ := hC
    simp only [List.set_cons_zero, List.set_cons_succ]
    obtain ⟨xb, hb⟩ := B1.is
    obtain ⟨xp, hpp⟩ := L1.pst
    obtain ⟨Cx, dxx, fsx, hxx⟩ := L1.self
    have aq : Ap3 b x p q := ⟨(ne_of_none hb nq).symm, (ne_of_none hxx nq).symm, (ne_of_none hpp nq).symm⟩
    have nbx : b ≠ x := ne_of hb hxx (by intro z; cases z)
    have B2 := B1.ex e2
    have L2 := L1.ex e2
    have S2 := S1.fr (Fr3.of e2)
    refine seq_cut (fun σ' H' => ∃ i, i ≤ 20 ∧ JHo T b sc x p q sz H2 i σ' H') (fun N hN => ?_) (fun σ3 H3 hC => ?_)
    · walk_at "sx"
      refine ⟨by decide, fun z nz => ?_⟩
      have ez := Ex.new nz (o := .lst [])
      have hsc2 : SqL K H2 sc (ns.map V.int) := ex_l e2 (sqL_fx hsc nb0 e0 f1)
      refine eqInts (ns := ns) (ms := []) (ex_l ez hsc2) (.inl (.inl upd_same)) ?_
      refine ⟨_, rfl, ?_⟩
      have start : JHo T b sc x p q sz H2 0 [some (V.ref b), some (V.ref sc), some (V.ref q), none, some (V.ref x), some (V.ref t), some (V.int (sz : Nat)), none, none, none, none] (upd H2 z (.lst [])) := ⟨none, none, none, none, none, t, [], ([], []), rfl, Fr3.of ez, (B2.ex ez).mono (by omega), L2.ex ez, S2.fr (Fr3.of ez), ⟨List.nodup_nil, pg_nil _, pg_nil _, Nat.zero_le _⟩, Nat.le_refl _⟩
      split
      all_goals
        refine ⟨by omega, by omega, ?_⟩
        refine lg_rng (JHo T b sc x p q sz H2) start (fun i σ' H' hi hP => ?_) (fun σ' H' hP => hN _ _ ⟨_, by decide, hP⟩)
        have hi20 : i < 20 := Nat.lt_of_lt_of_le hi (by decide)
        clear hi
        clear start
        obtain ⟨l3, l7, l8, l9, l10, t, ss, s, rfl, fr, Bi, Li, Si, so, ls⟩ := hP
        simp only [x_gn, List.set_cons_zero, List.set_cons_succ]
        rw [show (0 : Int) + (i : Int) = (i : Int) by omega]
        have hqi := fr _ _ aq hq
        refine seq_asg (fun v H4 => ∃ m : Nat, v = .int m ∧ m ∈ [0, 1, 2, 3, 4, 6, 9, 10, 13, 20] ∧ m ≤ 20 ∧ Fx b H' H4 ∧ BagW H4 b (10 + 100 * i + 1)) (fun R hR => ?_) (fun v H4 hC => ?_)
        · walk_at "sx"
          by_cases c : (i : Int) < 10
          · rw [if_pos c]
            obtain ⟨m, h1, h2, h3⟩ := size17 (i := i) (by omega)
            exact ixL (.inl (.inl hqi)) (atI_n (j := i) rfl h1) (hR _ _ ⟨m, rfl, h2, h3, Fx.refl _ _, Bi.mono (by omega)⟩)
          · rw [if_neg c]
            refine ⟨b, 10, _, rfl, by omega, by omega, Bi, by omega, fun r H5 lr f5 b5 => ?_⟩
            obtain ⟨m, h1, h2, h3⟩ := size17 (i := r) lr
            exact ixL (.inl (.inl (f5 _ _ aq.1 hqi))) (atI_n (j := r) rfl h1) (hR _ _ ⟨m, rfl, h2, h3, f5, b5⟩)
        obtain ⟨m, rfl, hm, m20, f4, B4⟩ := hC
        simp only [List.set_cons_zero, List.set_cons_succ]
        have S4 := Si.fr (Fr3.fx f4)
        obtain ⟨xbi, hbi⟩ := Bi.is
        have nbp : b ≠ p := by
          obtain ⟨xb0, hb0⟩ := hB.is
          exact ne_of_none hb0 np
        have L4 : LivAt T H4 0 0 x p s ss := Li.fx hbi nbp.symm f4
        have l40 := so.l40
        have lso := so.ln
        refine seq_asg (fun v H5 => ∃ (g : Addr) (ns : List Int), v = .ref g ∧ Fx b H4 H5 ∧ BagW H5 b (10 + 100 * i + 61) ∧ H5 g = some (.lst (ns.map V.int)) ∧ ns.length = m ∧ Pg 40 ns ∧ Ap3 b x p g) (fun R hR => ?_) (fun v H5 hC => ?_)
        · walk_at "sx"
          obtain ⟨r, d, h1, h2, h3, a1, a2, a3⟩ := S4
          refine ixT (.inl (.inl h1)) (atI_n (j := 0) rfl rfl) ?_
          refine ⟨b, r, sz, m, _, s.1, rfl, z1, z2, m20, B4, by omega, a2.1.symm, h2, so.pg, l40, fun g ns H5 ng f5 b5 hg lg pg => ?_⟩
          obtain ⟨xp4, hp4⟩ := L4.pst
          obtain ⟨C4, d4, fs4, hx4⟩ := L4.self
          exact hR _ _ ⟨g, ns, rfl, f5, b5.mono (by omega), hg, lg, pg, B4.apart ng, (ne_of_none hx4 ng).symm, (ne_of_none hp4 ng).symm⟩
        obtain ⟨g, ms, rfl, f5, B5, hg, lg, pg, ag⟩ := hC
        simp only [List.set_cons_zero, List.set_cons_succ]
        have S5 := S4.fr (Fr3.fx f5)
        obtain ⟨xb4, hb4⟩ := B4.is
        have L5 : LivAt T H5 0 0 x p s ss := L4.fx hb4 nbp.symm f5
        have so2 : SOk (20 * (i + 1)) (plT (top 0 0) s.1 ms, s.2 ++ ms) := (so.play (b := top 0 0) pg).mono (by omega)
        refine seq_cut (fun σ' H6 => ∃ (t1 m2 : Addr), σ' = [some (.ref b), some (.ref sc), some (.ref q), some (.int (i : Nat)), some (.ref x), some (.ref t), some (.int sz), some (.int m), some (.ref g), some (.ref t1), some (.ref m2)] ∧ Ex H5 H6 ∧ StT H6 b x p t1 (plT (top 0 0) s.1 ms, s.2 ++ ms) ∧ H6 m2 = some (.lst ((nwB (top 0 0) s.1 ms).map V.bl)) ∧ Ap3 b x p m2) (fun N hN => ?_) (fun σ6 H6 hC => ?_)
        · walk_at "sx"
          obtain ⟨r, d, h1, h2, h3, a1, a2, a3⟩ := S5
          refine ⟨t, r, d, g, 40, 20 * i, s, ms, rfl, h1, h2, h3, hg, so, by omega, pg, fun t2 t1 r2 d2 m2 H6 nt2 nz e6 q1 q2 q3 q4 q5 => ?_⟩
          refine g_two q1 ?_
          obtain ⟨xb5, hb5⟩ := B5.is
          obtain ⟨xp5, hp5⟩ := L5.pst
          obtain ⟨C5, d5, fs5, hx5⟩ := L5.self
          have nb := nz b _ hb5 a2.1.symm
          have nx5 := nz x _ hx5 a2.2.1.symm
          have np5 := nz p _ hp5 a2.2.2.symm
          exact hN _ _ ⟨t1, m2, rfl, e6, ⟨r2, d2, q2, q3, q4, ⟨nb.2.2.1, nx5.2.2.1, np5.2.2.1⟩, ⟨nb.1, nx5.1, np5.1⟩, ⟨nb.2.1, nx5.2.1, np5.2.1⟩⟩, q5, nb.2.2.2, nx5.2.2.2, np5.2.2.2⟩
        obtain ⟨t1, m2, rfl, e6, S6, hm2, am2⟩ := hC
        have L6 := L5.ex e6
        have hg6 := e6 _ _ hg
        have So6 := S5.fr (Fr3.of e6)
        have B6 := B5.ex e6
        -- one visit of the line, and what is seen then
        have press : ∀ (H7 : Hp) (ps : List (List Int × List Int)) (F : VK) (E1 : XK), LivAt T H7 0 0 x p s ps → ps.length ≤ 20 → Fr3 b x p H6 H7 → (∀ H9, Fr3 b x p H7 H9 → (∀ o, H7 b = some o → H9 b = some o) → LivAt T H9 0 0 x p (plT (top 0 0) s.1 ms, s.2 ++ ms) (ps ++ [s]) → F (.bl true) H9) →
            spVisL T [V.ref x, V.ref g] H7 (fun v H1 => spEq K 3 [v, V.ref m2] H1 F E0) E1 := fun H7 ps F E1 L7 lp f7 kF => by
          refine ⟨x, p, g, 0, 0, 20 * i, s, ps, ms.map V.int, rfl, L7, so, by rw [List.length_map]; omega, by omega, f7 _ _ ag hg6, by rw [List.length_map, lg]; exact hm, fun v hv H' e => ?_, fun ns2 en pn f H8 nf fr8 hf L8 => ?_, fun c => ?_⟩
          · obtain ⟨z, _, rfl⟩ := List.mem_map.mp hv
            exact .int z
          · have en2 : ns2 = ms := ((List.map_inj_right (fun a b h => V.int.inj h)).mp en).symm
            subst en2
            refine ⟨_, _, .list ((nwB (top 0 0) s.1 ns2).map PyData.bool), rfl, .lst (.inl (.inl hf)) (dp_bools _), .lst (.inl (.inl (fr8 _ _ am2.2.1 am2.2.2 (f7 _ _ am2 hm2)))) (dp_bools _), si_bools3 _ (by rw [nwB_len]; omega), fun H9 e9 => ?_⟩
            exact kF H9 ((Fr3.f2 fr8).trans (Fr3.of e9)) (fun o h => e9 _ _ (fr8 _ _ nbx nbp h)) (L8.ex e9)
          · rw [all_pg pg] at c
            cases c
        -- what is seen of a state
        have see : ∀ (H7 : Hp) (t : Addr) (u : List Int × List Int) (ps : List (List Int × List Int)) (F : VK), SOk 6000 u → LivAt T H7 0 0 x p u ps → StT H7 b x p t u → (∀ H9, Ex H7 H9 → F (.bl true) H9) → spSeen T [V.ref x] H7 (fun v H1 => spDue K [V.ref t] H1 (fun v2 H2 => spEq K 3 [v, v2] H2 F E0) E0) E0 := fun H7 t u ps F su Lu St r => by
          obtain ⟨r1, d1, h1, h2, h3, _⟩ := St
          refine ⟨x, p, 0, 0, u, ps, rfl, Lu, su, fun l H8 nl e8 dp => ?_⟩
          refine ⟨t, r1, d1, u, rfl, e8 _ _ h1, e8 _ _ h2, e8 _ _ h3, su, fun l2 H9 nl2 e9 dp2 => ?_⟩
          exact ⟨_, _, dSeen u, rfl, ex_d e9 _ _ dp, dp2, si_seen su, fun H10 e10 => r _ (e8.trans (e9.trans e10))⟩
        have so6 : SOk 6000 s := so.mono (by omega)
        have so26 := so2.mono (show 20 * (i + 1) ≤ 6000 by omega)
        walk_at "sx"
        refine press H6 ss _ _ L6 (by omega) (fun a o _ h => h) fun H7 f7 b7 L7 => ⟨_, rfl, ?_⟩
        rw [if_neg (by decide)]
        refine see H7 t1 _ _ _ so26 L7 (S6.fr f7) fun H8 e8 => ⟨_, rfl, ?_⟩
        rw [if_neg (by decide)]
        have L8 := L7.ex e8
        obtain ⟨dx8, n8, y1, y2, y3⟩ := id L8
        refine ⟨_, _, _, y1, fl_no _ _ _ _ (by decide +kernel) (by decide +kernel) (by decide +kernel), (knd T 0).cl, T.m_Trail_undo _ (kcl_mem T 0), ?_⟩
        refine ⟨x, p, 0, 0, _, ss ++ [s], rfl, L8, fun ps0 s0 es H9 f9 L9 => ?_, fun c => absurd c (by simp)⟩
        obtain ⟨rfl, es1⟩ := List.append_inj' es rfl
        obtain rfl : s = s0 := by simpa using es1
        have f69 : Fr3 b x p H6 H9 := (f7.trans (Fr3.of e8)).trans (Fr3.f2 f9)
        refine see H9 t s _ _ so6 L9 (So6.fr f69) fun HA eA => ⟨_, rfl, ?_⟩
        rw [if_neg (by decide)]
        refine press HA _ _ _ (L9.ex eA) (by omega) (f69.trans (Fr3.of eA)) fun HB fB bB LB => ⟨_, rfl, ?_⟩
        rw [if_neg (by decide)]
        have f6B := (f69.trans (Fr3.of eA)).trans fB
        refine see HB t1 _ _ _ so26 LB (S6.fr f6B) fun HC eC => ⟨_, rfl, ?_⟩
        rw [if_neg (by decide)]
        have BC : BagW HC b (10 + 100 * (i + 1)) := (B6.kept (H' := HC) fun o h => eC _ _ (bB _ (eA _ _ (f9 _ _ nbx nbp (e8 _ _ (b7 _ h)))))).mono (by omega)
        have f2C : Fr3 b x p H2 HC := ((((fr.trans (Fr3.fx f4)).trans (Fr3.fx f5)).trans (Fr3.of e6)).trans f6B).trans (Fr3.of eC)
        exact ⟨_, _, _, _, _, t1, _, _, rfl, f2C, BC, LB.ex eC, S6.fr (f6B.trans (Fr3.of eC)), so2, by rw [List.length_append, List.length_singleton]; omega⟩
    obtain ⟨i, hi, l3, l7, l8, l9, l10, t3, ss, s, rfl, fr3, B3, L3, S3, so3, ls3⟩ := hC
    walk_at "sx"
    obtain ⟨dx3, n3, y1, y2, y3⟩ := id L3
    refine ⟨_, _, _, y1, (knd T 0).cl, T.p_Trail_visits _ (kcl_mem T 0), ?_⟩
    refine ⟨x, p, 0, 0, s, ss, rfl, L3, fun l H4 nl e4 hl => ?_⟩
    obtain ⟨r, d, h1, h2, h3, _⟩ := S3
    refine ixT (.inl (.inl (e4 _ _ h1))) (atI_n (j := 1) rfl rfl) ?_
    refine eqInts (.inl (.inl hl)) (.inl (.inl (e4 _ _ h3))) ?_
    rw [decide_eq_true rfl]
    refine k _ fun a o h => ?_
    have hH := hid_ex _ _ h
    have nab : a ≠ b := fun e => by
      unfold hidB at h
      rw [if_pos e] at h
      cases h
    have h1 := f1 _ _ nab hH
    exact e4 _ _ (fr3 _ _ ⟨nab, ne_of_none hH nx, ne_of_none hH np⟩ (e2 _ _ h1))
end
end LW

set_option Elab.async false
set_option linter.all false
set_option maxRecDepth 100000
set_option maxHeartbeats 4000000
namespace LW
open PySem PySem.Spec PyProof.Rows L2 BC Evl TR EF L2.DX SUX
local macro_rules | `(tactic| walk_at "sx") => `(tactic| try simp only [x_callV, x_lcV, x_callKS, BC.x_gtupV, x_methF, x_methF2, x_methR, x_propF, SUX.x_sup1, x_sortSetB, x_lenSetA, x_mulS, x_callS, x_makeS, x_makeKS, x_seq, x_next, x_brk, x_cnt, x_nev, x_ret, x_retN, x_drop, x_ifS, x_asg, x_gn, x_gsub, x_par, x_par3, x_aug, x_for, x_lc, x_rng1, x_rng2, x_rng3, x_ilist, x_itup, x_ienum, x_izip, x_izipA, x_istr, x_var, x_c, x_op, x_un, x_test, x_b, x_chain, x_and, x_or, x_not, x_andV, x_orV, x_notV, x_ife, x_nil, x_cons, x_lst, x_tup, x_cb, x_call, x_callK, x_bm, x_bm0, x_tru, x_sl, x_nopart, x_part, x_revL, x_I0, x_I, x_U, x_ip, x_ipC, x_eqI, x_neI, x_eqB, x_neB, x_eqS, x_neS, x_isB, x_isNB, x_lrg, x_gall, x_lenSet, x_sortSet, x_rg1, x_rg2, x_dnewK, x_dnewT, x_dget, x_dget1, x_dget2, x_din, x_dnotin, x_dput, x_ikeys, x_fld, x_sfld, x_prop, x_meth, x_make, x_dc, x_callO, x_callOK,
  L2.start, List.map_cons, List.map_nil, List.length_cons, List.length_nil, Nat.reduceAdd, Nat.reduceSub, Nat.sub_self, Nat.zero_add, List.replicate, List.replicate_succ, List.replicate_zero, List.append_nil, List.cons_append, List.nil_append, List.set_cons_zero, List.set_cons_succ, List.getElem?_cons_zero, List.getElem?_cons_succ, Option.some.injEq, V.int.injEq, V.bl.injEq, V.ref.injEq, V.str.injEq, List.cons.injEq, and_true, true_and, exists_eq_left', exists_eq_left, exists_and_left, exists_eq, if_true, if_false, ite_true, ite_false, Bool.true_eq_false, Bool.false_eq_true, reduceIte, reduceCtorEq, Bool.not_true, Bool.not_false, decide_true, decide_false, decide_eq_true_eq, Bool.and_true, Bool.true_and, Bool.and_self, Bool.and_false, Bool.false_and, Bool.or_self, Bool.or_false, Bool.false_or, Bool.or_true, Bool.true_or, eq_self])
section
variable {P : Program} {w : World} {K : PySem.W.Frag} {mg : Str → Option Value} {base : Heap}
def spLaw (K : PySem.W.Frag) : Sp := fun vs H Q _ => ∃ (s : Addr) (ns : List Int), vs = [.ref s] ∧ SqL K H s (ns.map V.int) ∧ ns.length ≤ 63 ∧ ∀ H', Q (.bl true) H'
theorem ok_law (T : Txt P K mg) : FnOk P w K mg base CX0 13 T.f_law T.fd_law ["_law_script"] (spLaw K) := by
  refine T.F_law.ok sc_law (fun vs H Q E h => ?_) (fun cdv A outer s H vs Q E hr h => ?_)
  · obtain ⟨a, ns, rfl, _⟩ := h
    rfl
  · obtain ⟨a, ns, rfl, hA, hn, k⟩ := h
    apply Exists.intro
    apply And.intro
    · apply pss_cons
      · apply ps_for PassesOwn.never rfl
        · exact (k_pi_enum (K := K) rfl (by rfl) T.n_enumerate (pa_cons (pe_call (ok_law_cells T) (hr.mono (by decide)) (by rfl) T.m_law_cells T.F_law_cells.kp T.b_law_cells .nil pass0 (pa_cons (pv 0) (pa_cons pe_int pa_nil))) pa_nil))
        · exact (k_tup (K := K) (n := 2) rfl rfl (pgs_cons (pg_name (i := 1) sc_law.nd rfl (.inl rfl)) (pgs_cons (pg_name (i := 2) sc_law.nd rfl (.inl rfl)) pgs_nil)))
        · apply pss_one
          apply ps_if
          · exact (pt_not (pt_val (pe_call (ok_law_holds T) (hr.mono (by decide)) (by rfl) T.m_law_holds T.F_law_holds.kp T.b_law_holds .nil pass0 (pa_cons (pe_call (ok_law_source T) (hr.mono (by decide)) (by rfl) T.m_law_source T.F_law_source.kp T.b_law_source .nil pass0 (pa_cons (pv 2) (pa_cons (pv 1) pa_nil))) (pa_cons (pv 0) pa_nil)))))
          · apply pss_one
            exact (ps_ret pe_bl)
          · exact pss_nil
      apply pss_one
      exact (ps_ret pe_bl)
    walk_at "sx"
    refine ⟨a, ns, rfl, hA, by omega, fun p H1 xs np e1 hp lx => ?_⟩
    refine ⟨p, rfl, _, .inl (.inl hp), ?_⟩
    refine lg_enum (xs := xs.map V.int) (fun i σ' H' => ∃ l1 l2, σ' = [some (.ref a), l1, l2] ∧ Ex H1 H') ⟨none, none, rfl, Ex.refl _⟩ (fun i σ' H' hi hP => by obtain ⟨_, _, _, e⟩ := hP; exact .inl (.inl (e _ _ hp))) (fun i v σ' H' T' hv hP nT => ?_) (fun σ' H' hP => ?_)
    · obtain ⟨l1, l2, rfl, e⟩ := hP
      obtain ⟨n, hn1, rfl⟩ := ints_at hv
      have hi := (List.getElem?_eq_some_iff.mp hn1).1
      have eT := Ex.new nT (o := .tup [V.int (i : Nat), V.int n])
      refine g_two upd_same ?_
      walk_at "sx"
      refine ⟨n, i, rfl, by omega, fun b H2 nb e2 B2 => ?_⟩
      refine ⟨b, a, ns, _, rfl, B2, ex_l eT (ex_l e (ex_l e1 hA)), nb, e2, fun H3 e3 => ?_⟩
      refine ⟨_, rfl, ?_⟩
      rw [if_neg (by decide)]
      refine ⟨_, _, ⟨rfl, rfl⟩, fun c o h => ?_⟩
      have h1 := eT _ _ (e _ _ h)
      refine e3 _ _ ?_
      rw [hid_ne (ne_of_none h1 nb)]
      exact e2 _ _ h1
    · obtain ⟨l1, l2, rfl, e⟩ := hP
      walk_at "sx"
      exact k _
end
end LW

set_option Elab.async false
set_option linter.all false
set_option maxRecDepth 100000
set_option maxHeartbeats 4000000
namespace LW
open PySem PySem.Spec PyProof.Rows L2 BC Evl TR EF L2.DX SUX
theorem all_mk {l : PySem.W.OpenLaw} {w : World} {K : PySem.W.Frag} {h : Heap} {mg : Str → Option Value} {fa : Addr} (X : K.In h) (G : h.Ns mainGlobals mg) (hfa : mg "law" = some (.ref fa))
    {X0 : Addr} {cdX0 : ClassData}
    {X1 : Addr} {cdX1 : ClassData}
    {X2 : Addr} {cdX2 : ClassData}
    {X3 : Addr} {cdX3 : ClassData}
    {X4 : Addr} {cdX4 : ClassData}
    {X5 : Addr} {cdX5 : ClassData}
    {C0 : Addr}
    {C1 : Addr}
    {f0 : Addr} {od0 an0 : Option Addr} {sl0 : Array (Option Value)} {oc0 kV0 dc0 pm0 cd0 ct0 : Value}
    {f1 : Addr} {od1 an1 : Option Addr} {sl1 : Array (Option Value)} {oc1 kV1 dc1 pm1 cd1 ct1 : Value}
    {f2 : Addr} {od2 an2 : Option Addr} {sl2 : Array (Option Value)} {oc2 kV2 dc2 pm2 cd2 ct2 : Value}
    {f3 : Addr} {od3 an3 : Option Addr} {sl3 : Array (Option Value)} {oc3 kV3 dc3 pm3 cd3 ct3 : Value}
    {f4 : Addr} {od4 an4 : Option Addr} {sl4 : Array (Option Value)} {oc4 kV4 dc4 pm4 cd4 ct4 : Value}
    {f5 : Addr} {od5 an5 : Option Addr} {sl5 : Array (Option Value)} {oc5 kV5 dc5 pm5 cd5 ct5 : Value}
    {f6 : Addr} {od6 an6 : Option Addr} {sl6 : Array (Option Value)} {oc6 kV6 dc6 pm6 cd6 ct6 : Value}
    {f7 : Addr} {od7 an7 : Option Addr} {sl7 : Array (Option Value)} {oc7 kV7 dc7 pm7 cd7 ct7 : Value}
    {f8 : Addr} {od8 an8 : Option Addr} {sl8 : Array (Option Value)} {oc8 kV8 dc8 pm8 cd8 ct8 : Value}
    {f9 : Addr} {od9 an9 : Option Addr} {sl9 : Array (Option Value)} {oc9 kV9 dc9 pm9 cd9 ct9 : Value}
    {f10 : Addr} {od10 an10 : Option Addr} {sl10 : Array (Option Value)} {oc10 kV10 dc10 pm10 cd10 ct10 : Value}
    {f11 : Addr} {od11 an11 : Option Addr} {sl11 : Array (Option Value)} {oc11 kV11 dc11 pm11 cd11 ct11 : Value}
    {f12 : Addr} {od12 an12 : Option Addr} {sl12 : Array (Option Value)} {oc12 kV12 dc12 pm12 cd12 ct12 : Value}
    {f13 : Addr} {od13 an13 : Option Addr} {sl13 : Array (Option Value)} {oc13 kV13 dc13 pm13 cd13 ct13 : Value}
    {f14 : Addr} {od14 an14 : Option Addr} {sl14 : Array (Option Value)} {oc14 kV14 dc14 pm14 cd14 ct14 : Value}
    {f15 : Addr} {od15 an15 : Option Addr} {sl15 : Array (Option Value)} {oc15 kV15 dc15 pm15 cd15 ct15 : Value}
    {f16 : Addr} {od16 an16 : Option Addr} {sl16 : Array (Option Value)} {oc16 kV16 dc16 pm16 cd16 ct16 : Value}
    {f17 : Addr} {od17 an17 : Option Addr} {sl17 : Array (Option Value)} {oc17 kV17 dc17 pm17 cd17 ct17 : Value}
    {f18 : Addr} {od18 an18 : Option Addr} {sl18 : Array (Option Value)} {oc18 kV18 dc18 pm18 cd18 ct18 : Value}
    {f19 : Addr} {od19 an19 : Option Addr} {sl19 : Array (Option Value)} {oc19 kV19 dc19 pm19 cd19 ct19 : Value}
    {p19 : Addr} {rest19 : List Value}
    {f20 : Addr} {od20 an20 : Option Addr} {sl20 : Array (Option Value)} {oc20 kV20 dc20 pm20 cd20 ct20 : Value}
    {p20 : Addr} {rest20 : List Value}
    {f21 : Addr} {od21 an21 : Option Addr} {sl21 : Array (Option Value)} {oc21 kV21 dc21 pm21 cd21 ct21 : Value}
    {f22 : Addr} {od22 an22 : Option Addr} {sl22 : Array (Option Value)} {oc22 kV22 dc22 pm22 ct22 : Value} {cd22 : Value}
    {f23 : Addr} {od23 an23 : Option Addr} {sl23 : Array (Option Value)} {oc23 kV23 dc23 pm23 ct23 : Value} {cd23 : Value}
    {p23 : Addr} {rest23 : List Value}
    {f24 : Addr} {od24 an24 : Option Addr} {sl24 : Array (Option Value)} {oc24 kV24 dc24 pm24 ct24 : Value} {cd24 : Value}
    {p24 : Addr} {rest24 : List Value}
    {f25 : Addr} {od25 an25 : Option Addr} {sl25 : Array (Option Value)} {oc25 kV25 dc25 pm25 ct25 : Value} {cd25 : Value}
    {p25 : Addr} {rest25 : List Value}
    {f26 : Addr} {od26 an26 : Option Addr} {sl26 : Array (Option Value)} {oc26 kV26 dc26 pm26 ct26 : Value} {cd26 : Value}
    {f27 : Addr} {od27 an27 : Option Addr} {sl27 : Array (Option Value)} {oc27 kV27 dc27 pm27 ct27 : Value} {cd27 : Value}
    {f28 : Addr} {od28 an28 : Option Addr} {sl28 : Array (Option Value)} {oc28 kV28 dc28 pm28 ct28 : Value} {cd28 : Value}
    {f29 : Addr} {od29 an29 : Option Addr} {sl29 : Array (Option Value)} {oc29 kV29 dc29 pm29 ct29 : Value} {cd29 : Value}
    {f30 : Addr} {od30 an30 : Option Addr} {sl30 : Array (Option Value)} {oc30 kV30 dc30 pm30 ct30 : Value} {cd30 : Value}
    {f31 : Addr} {od31 an31 : Option Addr} {sl31 : Array (Option Value)} {oc31 kV31 dc31 pm31 ct31 : Value} {cd31 : Value}
    {f32 : Addr} {od32 an32 : Option Addr} {sl32 : Array (Option Value)} {oc32 kV32 dc32 pm32 ct32 : Value} {cd32 : Value}
    {tt_MOST_PAGE : Tok}
    (xn : PySem.W.specialIn K (.builtin "object.__class__") "__get__" = some (some (.builtin "getset_descriptor.__get__"))) (xt : PySem.W.takesIn K (.builtin "object.__class__") = some true)
    (ax0 : PySem.W.nsIn K mainGlobals "BreadcrumbsError" = some (some (.ref X0)))
    (kx0 : PySem.W.keepIn K (.ref X0) = true)
    (xx0 : PySem.W.excIn K X0 [.type "ValueError", .type "Exception", .type "BaseException", .type "object"] "ValueError.__new__" = true)
    (gx0 : PySem.W.findIn K (.ref X0) "__getattribute__" = some (some (.builtin "BaseException.__getattribute__")))
    (hx0 : PySem.W.findIn K (.ref X0) "__getattr__" = some none)
    (bx0 : PySem.W.subIn K (.ref X0) (.type "BaseException") = some true)
    (dx0 : PySem.W.hasDictIn K X0 = true)
    (cx0 : PySem.W.findIn K (.ref X0) "__class__" = some (some (.builtin "object.__class__")))
    (mx0 : PySem.W.mroIn K X0 (.type "object") = some true)
    (tx0 : PySem.W.typeIn K (.ref X0) = some (.type "type"))
    (lx0 : PySem.W.clsIn K X0 = some cdX0)
    (rx0 : cdX0.mro = [X0].map Value.ref ++ HandSPX.veTail)
    (ax1 : PySem.W.nsIn K mainGlobals "EmptyHistoryError" = some (some (.ref X1)))
    (kx1 : PySem.W.keepIn K (.ref X1) = true)
    (xx1 : PySem.W.excIn K X1 [.type "ValueError", .type "Exception", .type "BaseException", .type "object"] "ValueError.__new__" = true)
    (gx1 : PySem.W.findIn K (.ref X1) "__getattribute__" = some (some (.builtin "BaseException.__getattribute__")))
    (hx1 : PySem.W.findIn K (.ref X1) "__getattr__" = some none)
    (bx1 : PySem.W.subIn K (.ref X1) (.type "BaseException") = some true)
    (dx1 : PySem.W.hasDictIn K X1 = true)
    (cx1 : PySem.W.findIn K (.ref X1) "__class__" = some (some (.builtin "object.__class__")))
    (mx1 : PySem.W.mroIn K X1 (.type "object") = some true)
    (tx1 : PySem.W.typeIn K (.ref X1) = some (.type "type"))
    (lx1 : PySem.W.clsIn K X1 = some cdX1)
    (rx1 : cdX1.mro = [X1, X0].map Value.ref ++ HandSPX.veTail)
    (ax2 : PySem.W.nsIn K mainGlobals "InvalidEffectError" = some (some (.ref X2)))
    (kx2 : PySem.W.keepIn K (.ref X2) = true)
    (xx2 : PySem.W.excIn K X2 [.type "ValueError", .type "Exception", .type "BaseException", .type "object"] "ValueError.__new__" = true)
    (gx2 : PySem.W.findIn K (.ref X2) "__getattribute__" = some (some (.builtin "BaseException.__getattribute__")))
    (hx2 : PySem.W.findIn K (.ref X2) "__getattr__" = some none)
    (bx2 : PySem.W.subIn K (.ref X2) (.type "BaseException") = some true)
    (dx2 : PySem.W.hasDictIn K X2 = true)
    (cx2 : PySem.W.findIn K (.ref X2) "__class__" = some (some (.builtin "object.__class__")))
    (mx2 : PySem.W.mroIn K X2 (.type "object") = some true)
    (tx2 : PySem.W.typeIn K (.ref X2) = some (.type "type"))
    (lx2 : PySem.W.clsIn K X2 = some cdX2)
    (rx2 : cdX2.mro = [X2, X0].map Value.ref ++ HandSPX.veTail)
    (ax3 : PySem.W.nsIn K mainGlobals "InvalidFormatError" = some (some (.ref X3)))
    (kx3 : PySem.W.keepIn K (.ref X3) = true)
    (xx3 : PySem.W.excIn K X3 [.type "ValueError", .type "Exception", .type "BaseException", .type "object"] "ValueError.__new__" = true)
    (gx3 : PySem.W.findIn K (.ref X3) "__getattribute__" = some (some (.builtin "BaseException.__getattribute__")))
    (hx3 : PySem.W.findIn K (.ref X3) "__getattr__" = some none)
    (bx3 : PySem.W.subIn K (.ref X3) (.type "BaseException") = some true)
    (dx3 : PySem.W.hasDictIn K X3 = true)
    (cx3 : PySem.W.findIn K (.ref X3) "__class__" = some (some (.builtin "object.__class__")))
    (mx3 : PySem.W.mroIn K X3 (.type "object") = some true)
    (tx3 : PySem.W.typeIn K (.ref X3) = some (.type "type"))
    (lx3 : PySem.W.clsIn K X3 = some cdX3)
    (rx3 : cdX3.mro = [X3, X0].map Value.ref ++ HandSPX.veTail)
    (ax4 : PySem.W.nsIn K mainGlobals "InvalidPageError" = some (some (.ref X4)))
    (kx4 : PySem.W.keepIn K (.ref X4) = true)
    (xx4 : PySem.W.excIn K X4 [.type "ValueError", .type "Exception", .type "BaseException", .type "object"] "ValueError.__new__" = true)
    (gx4 : PySem.W.findIn K (.ref X4) "__getattribute__" = some (some (.builtin "BaseException.__getattribute__")))
    (hx4 : PySem.W.findIn K (.ref X4) "__getattr__" = some none)
    (bx4 : PySem.W.subIn K (.ref X4) (.type "BaseException") = some true)
    (dx4 : PySem.W.hasDictIn K X4 = true)
    (cx4 : PySem.W.findIn K (.ref X4) "__class__" = some (some (.builtin "object.__class__")))
    (mx4 : PySem.W.mroIn K X4 (.type "object") = some true)
    (tx4 : PySem.W.typeIn K (.ref X4) = some (.type "type"))
    (lx4 : PySem.W.clsIn K X4 = some cdX4)
    (rx4 : cdX4.mro = [X4, X0].map Value.ref ++ HandSPX.veTail)
    (ax5 : PySem.W.nsIn K mainGlobals "InvalidTrailError" = some (some (.ref X5)))
    (kx5 : PySem.W.keepIn K (.ref X5) = true)
    (xx5 : PySem.W.excIn K X5 [.type "ValueError", .type "Exception", .type "BaseException", .type "object"] "ValueError.__new__" = true)
    (gx5 : PySem.W.findIn K (.ref X5) "__getattribute__" = some (some (.builtin "BaseException.__getattribute__")))
    (hx5 : PySem.W.findIn K (.ref X5) "__getattr__" = some none)
    (bx5 : PySem.W.subIn K (.ref X5) (.type "BaseException") = some true)
    (dx5 : PySem.W.hasDictIn K X5 = true)
    (cx5 : PySem.W.findIn K (.ref X5) "__class__" = some (some (.builtin "object.__class__")))
    (mx5 : PySem.W.mroIn K X5 (.type "object") = some true)
    (tx5 : PySem.W.typeIn K (.ref X5) = some (.type "type"))
    (lx5 : PySem.W.clsIn K X5 = some cdX5)
    (rx5 : cdX5.mro = [X5, X0].map Value.ref ++ HandSPX.veTail)
    (ndx : [X0, X1, X2, X3, X4, X5].Nodup)
    (aC0 : PySem.W.nsIn K mainGlobals "Effect" = some (some (.ref C0))) (pg0 : PySem.W.plainGet K C0 Str.empty = true) (hd0 : PySem.W.hasDictIn K C0 = true) (po0 : PySem.W.plainOver K C0 = true) (sa0 : PySem.W.findIn K (.ref C0) "__setattr__" = some (some (.builtin "object.__setattr__")))
    (na0_begin_page : PySem.W.findIn K (.ref C0) "begin_page" = some none)
    (na0_pairs : PySem.W.findIn K (.ref C0) "pairs" = some none)
    (na0_exit_of : PySem.W.findIn K (.ref C0) "exit_of" = some none)
    (aC1 : PySem.W.nsIn K mainGlobals "Trail" = some (some (.ref C1))) (pg1 : PySem.W.plainGet K C1 Str.empty = true) (hd1 : PySem.W.hasDictIn K C1 = true) (po1 : PySem.W.plainOver K C1 = true) (sa1 : PySem.W.findIn K (.ref C1) "__setattr__" = some (some (.builtin "object.__setattr__")))
    (na1_now : PySem.W.findIn K (.ref C1) "now" = some none)
    (na1_past : PySem.W.findIn K (.ref C1) "past" = some none)
    (a0 : PySem.W.nsIn K mainGlobals "is_integer" = some (some (.ref f0))) (l0 : K.lookup f0 = some ⟨oc0, od0, .func (PySem.W.fnOf "is_integer" "is_integer" (defArgs s_is_integer) (defBody s_is_integer) (defScope s_is_integer) .none kV0 dc0 pm0 an0 cd0 ct0), sl0⟩) (c0 : PySem.W.codeIn K cd0 "is_integer" = true) (k0 : PySem.W.keepIn K (.ref f0) = true)
    (a1 : PySem.W.nsIn K mainGlobals "is_page" = some (some (.ref f1))) (l1 : K.lookup f1 = some ⟨oc1, od1, .func (PySem.W.fnOf "is_page" "is_page" (defArgs s_is_page) (defBody s_is_page) (defScope s_is_page) .none kV1 dc1 pm1 an1 cd1 ct1), sl1⟩) (c1 : PySem.W.codeIn K cd1 "is_page" = true) (k1 : PySem.W.keepIn K (.ref f1) = true)
    (a2 : PySem.W.nsIn K mainGlobals "visited" = some (some (.ref f2))) (l2 : K.lookup f2 = some ⟨oc2, od2, .func (PySem.W.fnOf "visited" "visited" (defArgs s_visited) (defBody s_visited) (defScope s_visited) .none kV2 dc2 pm2 an2 cd2 ct2), sl2⟩) (c2 : PySem.W.codeIn K cd2 "visited" = true) (k2 : PySem.W.keepIn K (.ref f2) = true)
    (a3 : PySem.W.nsIn K mainGlobals "exits_in" = some (some (.ref f3))) (l3 : K.lookup f3 = some ⟨oc3, od3, .func (PySem.W.fnOf "exits_in" "exits_in" (defArgs s_exits_in) (defBody s_exits_in) (defScope s_exits_in) .none kV3 dc3 pm3 an3 cd3 ct3), sl3⟩) (c3 : PySem.W.codeIn K cd3 "exits_in" = true) (k3 : PySem.W.keepIn K (.ref f3) = true)
    (a4 : PySem.W.nsIn K mainGlobals "is_pair" = some (some (.ref f4))) (l4 : K.lookup f4 = some ⟨oc4, od4, .func (PySem.W.fnOf "is_pair" "is_pair" (defArgs s_is_pair) (defBody s_is_pair) (defScope s_is_pair) .none kV4 dc4 pm4 an4 cd4 ct4), sl4⟩) (c4 : PySem.W.codeIn K cd4 "is_pair" = true) (k4 : PySem.W.keepIn K (.ref f4) = true)
    (a5 : PySem.W.nsIn K mainGlobals "leads_to_root" = some (some (.ref f5))) (l5 : K.lookup f5 = some ⟨oc5, od5, .func (PySem.W.fnOf "leads_to_root" "leads_to_root" (defArgs s_leads_to_root) (defBody s_leads_to_root) (defScope s_leads_to_root) .none kV5 dc5 pm5 an5 cd5 ct5), sl5⟩) (c5 : PySem.W.codeIn K cd5 "leads_to_root" = true) (k5 : PySem.W.keepIn K (.ref f5) = true)
    (a6 : PySem.W.nsIn K mainGlobals "are_exits" = some (some (.ref f6))) (l6 : K.lookup f6 = some ⟨oc6, od6, .func (PySem.W.fnOf "are_exits" "are_exits" (defArgs s_are_exits) (defBody s_are_exits) (defScope s_are_exits) .none kV6 dc6 pm6 an6 cd6 ct6), sl6⟩) (c6 : PySem.W.codeIn K cd6 "are_exits" = true) (k6 : PySem.W.keepIn K (.ref f6) = true)
    (a7 : PySem.W.nsIn K mainGlobals "_law_source" = some (some (.ref f7))) (l7 : K.lookup f7 = some ⟨oc7, od7, .func (PySem.W.fnOf "_law_source" "_law_source" (defArgs s_law_source) (defBody s_law_source) (defScope s_law_source) .none kV7 dc7 pm7 an7 cd7 ct7), sl7⟩) (c7 : PySem.W.codeIn K cd7 "_law_source" = true) (k7 : PySem.W.keepIn K (.ref f7) = true)
    (a8 : PySem.W.nsIn K mainGlobals "_law_draw" = some (some (.ref f8))) (l8 : K.lookup f8 = some ⟨oc8, od8, .func (PySem.W.fnOf "_law_draw" "_law_draw" (defArgs s_law_draw) (defBody s_law_draw) (defScope s_law_draw) .none kV8 dc8 pm8 an8 cd8 ct8), sl8⟩) (c8 : PySem.W.codeIn K cd8 "_law_draw" = true) (k8 : PySem.W.keepIn K (.ref f8) = true)
    (a9 : PySem.W.nsIn K mainGlobals "_law_cells" = some (some (.ref f9))) (l9 : K.lookup f9 = some ⟨oc9, od9, .func (PySem.W.fnOf "_law_cells" "_law_cells" (defArgs s_law_cells) (defBody s_law_cells) (defScope s_law_cells) .none kV9 dc9 pm9 an9 cd9 ct9), sl9⟩) (c9 : PySem.W.codeIn K cd9 "_law_cells" = true) (k9 : PySem.W.keepIn K (.ref f9) = true)
    (a10 : PySem.W.nsIn K mainGlobals "_law_same" = some (some (.ref f10))) (l10 : K.lookup f10 = some ⟨oc10, od10, .func (PySem.W.fnOf "_law_same" "_law_same" (defArgs s_law_same) (defBody s_law_same) (defScope s_law_same) .none kV10 dc10 pm10 an10 cd10 ct10), sl10⟩) (c10 : PySem.W.codeIn K cd10 "_law_same" = true) (k10 : PySem.W.keepIn K (.ref f10) = true)
    (a11 : PySem.W.nsIn K mainGlobals "_law_played" = some (some (.ref f11))) (l11 : K.lookup f11 = some ⟨oc11, od11, .func (PySem.W.fnOf "_law_played" "_law_played" (defArgs s_law_played) (defBody s_law_played) (defScope s_law_played) .none kV11 dc11 pm11 an11 cd11 ct11), sl11⟩) (c11 : PySem.W.codeIn K cd11 "_law_played" = true) (k11 : PySem.W.keepIn K (.ref f11) = true)
    (a12 : PySem.W.nsIn K mainGlobals "_law_due" = some (some (.ref f12))) (l12 : K.lookup f12 = some ⟨oc12, od12, .func (PySem.W.fnOf "_law_due" "_law_due" (defArgs s_law_due) (defBody s_law_due) (defScope s_law_due) .none kV12 dc12 pm12 an12 cd12 ct12), sl12⟩) (c12 : PySem.W.codeIn K cd12 "_law_due" = true) (k12 : PySem.W.keepIn K (.ref f12) = true)
    (a13 : PySem.W.nsIn K mainGlobals "_law_seen" = some (some (.ref f13))) (l13 : K.lookup f13 = some ⟨oc13, od13, .func (PySem.W.fnOf "_law_seen" "_law_seen" (defArgs s_law_seen) (defBody s_law_seen) (defScope s_law_seen) .none kV13 dc13 pm13 an13 cd13 ct13), sl13⟩) (c13 : PySem.W.codeIn K cd13 "_law_seen" = true) (k13 : PySem.W.keepIn K (.ref f13) = true)
    (a14 : PySem.W.nsIn K mainGlobals "_law_line" = some (some (.ref f14))) (l14 : K.lookup f14 = some ⟨oc14, od14, .func (PySem.W.fnOf "_law_line" "_law_line" (defArgs s_law_line) (defBody s_law_line) (defScope s_law_line) .none kV14 dc14 pm14 an14 cd14 ct14), sl14⟩) (c14 : PySem.W.codeIn K cd14 "_law_line" = true) (k14 : PySem.W.keepIn K (.ref f14) = true)
    (a15 : PySem.W.nsIn K mainGlobals "_law_visit" = some (some (.ref f15))) (l15 : K.lookup f15 = some ⟨oc15, od15, .func (PySem.W.fnOf "_law_visit" "_law_visit" (defArgs s_law_visit) (defBody s_law_visit) (defScope s_law_visit) .none kV15 dc15 pm15 an15 cd15 ct15), sl15⟩) (c15 : PySem.W.codeIn K cd15 "_law_visit" = true) (k15 : PySem.W.keepIn K (.ref f15) = true)
    (a16 : PySem.W.nsIn K mainGlobals "_law_holds" = some (some (.ref f16))) (l16 : K.lookup f16 = some ⟨oc16, od16, .func (PySem.W.fnOf "_law_holds" "_law_holds" (defArgs s_law_holds) (defBody s_law_holds) (defScope s_law_holds) .none kV16 dc16 pm16 an16 cd16 ct16), sl16⟩) (c16 : PySem.W.codeIn K cd16 "_law_holds" = true) (k16 : PySem.W.keepIn K (.ref f16) = true)
    (a17 : PySem.W.nsIn K mainGlobals "law" = some (some (.ref f17))) (l17 : K.lookup f17 = some ⟨oc17, od17, .func (PySem.W.fnOf "law" "law" (defArgs s_law) (defBody s_law) (defScope s_law) .none kV17 dc17 pm17 an17 cd17 ct17), sl17⟩) (c17 : PySem.W.codeIn K cd17 "law" = true) (k17 : PySem.W.keepIn K (.ref f17) = true)
    (a18 : PySem.W.findIn K (.ref C0) "__init__" = some (some (.ref f18))) (i18 : PySem.W.isFn K (.ref f18) = true) (l18 : K.lookup f18 = some ⟨oc18, od18, .func (PySem.W.fnOf "__init__" "Effect.__init__" (defArgs s_Effect___init) (defBody s_Effect___init) (defScope s_Effect___init) .none kV18 dc18 pm18 an18 cd18 ct18), sl18⟩) (c18 : PySem.W.codeIn K cd18 "Effect.__init__" = true) (k18 : PySem.W.keepIn K (.ref f18) = true)
    (mk0 : PySem.W.makesIn K C0 = true) (kc0 : PySem.W.keepIn K (.ref C0) = true)
    (a19 : PySem.W.findIn K (.ref C0) "first" = some (some (.ref p19))) (g19 : PySem.W.specialIn K (.ref p19) "__get__" = some (some (.builtin "property.__get__"))) (t19 : PySem.W.takesIn K (.ref p19) = some true) (r19 : PySem.W.recIn K p19 "property" = some (.ref f19 :: rest19)) (l19 : K.lookup f19 = some ⟨oc19, od19, .func (PySem.W.fnOf "first" "Effect.first" (defArgs s_Effect_first) (defBody s_Effect_first) (defScope s_Effect_first) .none kV19 dc19 pm19 an19 cd19 ct19), sl19⟩) (c19 : PySem.W.codeIn K cd19 "Effect.first" = true) (k19 : PySem.W.keepIn K (.ref f19) = true)
    (a20 : PySem.W.findIn K (.ref C0) "exits" = some (some (.ref p20))) (g20 : PySem.W.specialIn K (.ref p20) "__get__" = some (some (.builtin "property.__get__"))) (t20 : PySem.W.takesIn K (.ref p20) = some true) (r20 : PySem.W.recIn K p20 "property" = some (.ref f20 :: rest20)) (l20 : K.lookup f20 = some ⟨oc20, od20, .func (PySem.W.fnOf "exits" "Effect.exits" (defArgs s_Effect_exits) (defBody s_Effect_exits) (defScope s_Effect_exits) .none kV20 dc20 pm20 an20 cd20 ct20), sl20⟩) (c20 : PySem.W.codeIn K cd20 "Effect.exits" = true) (k20 : PySem.W.keepIn K (.ref f20) = true)
    (a21 : PySem.W.findIn K (.ref C0) "__len__" = some (some (.ref f21))) (i21 : PySem.W.isFn K (.ref f21) = true) (l21 : K.lookup f21 = some ⟨oc21, od21, .func (PySem.W.fnOf "__len__" "Effect.__len__" (defArgs s_Effect___len) (defBody s_Effect___len) (defScope s_Effect___len) .none kV21 dc21 pm21 an21 cd21 ct21), sl21⟩) (c21 : PySem.W.codeIn K cd21 "Effect.__len__" = true) (k21 : PySem.W.keepIn K (.ref f21) = true)
    (mi1 : PySem.W.findIn K (.ref C1) "__init__" = some (some (.ref f22)))
    (k22 : PySem.W.keepIn K (.ref f22) = true)
    (l22 : K.lookup f22 = some ⟨oc22, od22, .func (PySem.W.fnOf "__init__" "Trail.__init__" (defArgs s_Trail___init) (defBody s_Trail___init) (defScope s_Trail___init) .none kV22 dc22 pm22 an22 cd22 ct22), sl22⟩)
    (c22 : PySem.W.codeIn K cd22 "Trail.__init__" = true)
    (i22 : PySem.W.isFn K (.ref f22) = true)
    (a23_1 : PySem.W.findIn K (.ref C1) "trail" = some (some (.ref p23)))
    (g23 : PySem.W.specialIn K (.ref p23) "__get__" = some (some (.builtin "property.__get__")))
    (t23 : PySem.W.takesIn K (.ref p23) = some true)
    (r23 : PySem.W.recIn K p23 "property" = some (.ref f23 :: rest23))
    (k23 : PySem.W.keepIn K (.ref f23) = true)
    (l23 : K.lookup f23 = some ⟨oc23, od23, .func (PySem.W.fnOf "trail" "Trail.trail" (defArgs s_Trail_trail) (defBody s_Trail_trail) (defScope s_Trail_trail) .none kV23 dc23 pm23 an23 cd23 ct23), sl23⟩)
    (c23 : PySem.W.codeIn K cd23 "Trail.trail" = true)
    (a24_1 : PySem.W.findIn K (.ref C1) "visits" = some (some (.ref p24)))
    (g24 : PySem.W.specialIn K (.ref p24) "__get__" = some (some (.builtin "property.__get__")))
    (t24 : PySem.W.takesIn K (.ref p24) = some true)
    (r24 : PySem.W.recIn K p24 "property" = some (.ref f24 :: rest24))
    (k24 : PySem.W.keepIn K (.ref f24) = true)
    (l24 : K.lookup f24 = some ⟨oc24, od24, .func (PySem.W.fnOf "visits" "Trail.visits" (defArgs s_Trail_visits) (defBody s_Trail_visits) (defScope s_Trail_visits) .none kV24 dc24 pm24 an24 cd24 ct24), sl24⟩)
    (c24 : PySem.W.codeIn K cd24 "Trail.visits" = true)
    (a25_1 : PySem.W.findIn K (.ref C1) "effect" = some (some (.ref p25)))
    (g25 : PySem.W.specialIn K (.ref p25) "__get__" = some (some (.builtin "property.__get__")))
    (t25 : PySem.W.takesIn K (.ref p25) = some true)
    (r25 : PySem.W.recIn K p25 "property" = some (.ref f25 :: rest25))
    (k25 : PySem.W.keepIn K (.ref f25) = true)
    (l25 : K.lookup f25 = some ⟨oc25, od25, .func (PySem.W.fnOf "effect" "Trail.effect" (defArgs s_Trail_effect) (defBody s_Trail_effect) (defScope s_Trail_effect) .none kV25 dc25 pm25 an25 cd25 ct25), sl25⟩)
    (c25 : PySem.W.codeIn K cd25 "Trail.effect" = true)
    (a26_1 : PySem.W.findIn K (.ref C1) "__len__" = some (some (.ref f26)))
    (k26 : PySem.W.keepIn K (.ref f26) = true)
    (l26 : K.lookup f26 = some ⟨oc26, od26, .func (PySem.W.fnOf "__len__" "Trail.__len__" (defArgs s_Trail___len) (defBody s_Trail___len) (defScope s_Trail___len) .none kV26 dc26 pm26 an26 cd26 ct26), sl26⟩)
    (c26 : PySem.W.codeIn K cd26 "Trail.__len__" = true)
    (i26 : PySem.W.isFn K (.ref f26) = true)
    (a27_1 : PySem.W.findIn K (.ref C1) "__contains__" = some (some (.ref f27)))
    (k27 : PySem.W.keepIn K (.ref f27) = true)
    (l27 : K.lookup f27 = some ⟨oc27, od27, .func (PySem.W.fnOf "__contains__" "Trail.__contains__" (defArgs s_Trail___contains) (defBody s_Trail___contains) (defScope s_Trail___contains) .none kV27 dc27 pm27 an27 cd27 ct27), sl27⟩)
    (c27 : PySem.W.codeIn K cd27 "Trail.__contains__" = true)
    (i27 : PySem.W.isFn K (.ref f27) = true)
    (a28_1 : PySem.W.findIn K (.ref C1) "shortened" = some (some (.ref f28)))
    (k28 : PySem.W.keepIn K (.ref f28) = true)
    (l28 : K.lookup f28 = some ⟨oc28, od28, .func (PySem.W.fnOf "shortened" "Trail.shortened" (defArgs s_Trail_shortened) (defBody s_Trail_shortened) (defScope s_Trail_shortened) .none kV28 dc28 pm28 an28 cd28 ct28), sl28⟩)
    (c28 : PySem.W.codeIn K cd28 "Trail.shortened" = true)
    (i28 : PySem.W.isFn K (.ref f28) = true)
    (a29_1 : PySem.W.findIn K (.ref C1) "after" = some (some (.ref f29)))
    (k29 : PySem.W.keepIn K (.ref f29) = true)
    (l29 : K.lookup f29 = some ⟨oc29, od29, .func (PySem.W.fnOf "after" "Trail.after" (defArgs s_Trail_after) (defBody s_Trail_after) (defScope s_Trail_after) .none kV29 dc29 pm29 an29 cd29 ct29), sl29⟩)
    (c29 : PySem.W.codeIn K cd29 "Trail.after" = true)
    (i29 : PySem.W.isFn K (.ref f29) = true)
    (a30_1 : PySem.W.findIn K (.ref C1) "commit" = some (some (.ref f30)))
    (k30 : PySem.W.keepIn K (.ref f30) = true)
    (l30 : K.lookup f30 = some ⟨oc30, od30, .func (PySem.W.fnOf "commit" "Trail.commit" (defArgs s_Trail_commit) (defBody s_Trail_commit) (defScope s_Trail_commit) .none kV30 dc30 pm30 an30 cd30 ct30), sl30⟩)
    (c30 : PySem.W.codeIn K cd30 "Trail.commit" = true)
    (i30 : PySem.W.isFn K (.ref f30) = true)
    (a31_1 : PySem.W.findIn K (.ref C1) "visit" = some (some (.ref f31)))
    (k31 : PySem.W.keepIn K (.ref f31) = true)
    (l31 : K.lookup f31 = some ⟨oc31, od31, .func (PySem.W.fnOf "visit" "Trail.visit" (defArgs s_Trail_visit) (defBody s_Trail_visit) (defScope s_Trail_visit) .none kV31 dc31 pm31 an31 cd31 ct31), sl31⟩)
    (c31 : PySem.W.codeIn K cd31 "Trail.visit" = true)
    (i31 : PySem.W.isFn K (.ref f31) = true)
    (a32_1 : PySem.W.findIn K (.ref C1) "undo" = some (some (.ref f32)))
    (k32 : PySem.W.keepIn K (.ref f32) = true)
    (l32 : K.lookup f32 = some ⟨oc32, od32, .func (PySem.W.fnOf "undo" "Trail.undo" (defArgs s_Trail_undo) (defBody s_Trail_undo) (defScope s_Trail_undo) .none kV32 dc32 pm32 an32 cd32 ct32), sl32⟩)
    (c32 : PySem.W.codeIn K cd32 "Trail.undo" = true)
    (i32 : PySem.W.isFn K (.ref f32) = true)
    (mm1 : PySem.W.makesIn K C1 = true)
    (mk1 : PySem.W.keepIn K (.ref C1) = true)
    (al_is_page_trails : PySem.W.nsIn K mainGlobals "is_page_trails" = some (some (.ref f1)))
    (q_MOST_PAGE : PySem.W.nsIn K mainGlobals "MOST_PAGE" = some (some (.int 39 tt_MOST_PAGE)))
    (z_all : PySem.W.nsIn K mainGlobals "all" = some none)
    (z_any : PySem.W.nsIn K mainGlobals "any" = some none)
    (z_bool : PySem.W.nsIn K mainGlobals "bool" = some none)
    (z_dict : PySem.W.nsIn K mainGlobals "dict" = some none)
    (z_enumerate : PySem.W.nsIn K mainGlobals "enumerate" = some none)
    (z_int : PySem.W.nsIn K mainGlobals "int" = some none)
    (z_isinstance : PySem.W.nsIn K mainGlobals "isinstance" = some none)
    (z_len : PySem.W.nsIn K mainGlobals "len" = some none)
    (z_list : PySem.W.nsIn K mainGlobals "list" = some none)
    (z_max : PySem.W.nsIn K mainGlobals "max" = some none)
    (z_range : PySem.W.nsIn K mainGlobals "range" = some none)
    (z_sorted : PySem.W.nsIn K mainGlobals "sorted" = some none)
    (z_tuple : PySem.W.nsIn K mainGlobals "tuple" = some none)
    (z_zip : PySem.W.nsIn K mainGlobals "zip" = some none) :
    ∃ fd : FuncData, (∀ (s : Shared) (v : Value), BindsTo s fd ⟨[v], []⟩ [("_law_script", v)]) ∧ ∀ base : Heap, K.In base → base.Ns mainGlobals mg → FnOk l.prog w K mg base CX0 13 fa fd ["_law_script"] (spLaw K) := by
  have e := hfa.symm.trans (PySem.W.mg_of X G a17)
  cases e
  let T : Txt l.prog K mg := ⟨X0, PySem.W.mg_of X G ax0, kx0, xx0, ⟨gx0, hx0, bx0, dx0, cx0, xn, xt, mx0⟩, tx0, bx0, ⟨cdX0, lx0, rx0⟩,
    X1, PySem.W.mg_of X G ax1, kx1, xx1, ⟨gx1, hx1, bx1, dx1, cx1, xn, xt, mx1⟩, tx1, bx1, ⟨cdX1, lx1, rx1⟩,
    X2, PySem.W.mg_of X G ax2, kx2, xx2, ⟨gx2, hx2, bx2, dx2, cx2, xn, xt, mx2⟩, tx2, bx2, ⟨cdX2, lx2, rx2⟩,
    X3, PySem.W.mg_of X G ax3, kx3, xx3, ⟨gx3, hx3, bx3, dx3, cx3, xn, xt, mx3⟩, tx3, bx3, ⟨cdX3, lx3, rx3⟩,
    X4, PySem.W.mg_of X G ax4, kx4, xx4, ⟨gx4, hx4, bx4, dx4, cx4, xn, xt, mx4⟩, tx4, bx4, ⟨cdX4, lx4, rx4⟩,
    X5, PySem.W.mg_of X G ax5, kx5, xx5, ⟨gx5, hx5, bx5, dx5, cx5, xn, xt, mx5⟩, tx5, bx5, ⟨cdX5, lx5, rx5⟩,
    ndx,
    C0, ⟨pg0, hd0, po0, sa0⟩, PySem.W.mg_of X G aC0,
    na0_begin_page,
    na0_pairs,
    na0_exit_of,
    C1, ⟨pg1, hd1, po1, sa1⟩, PySem.W.mg_of X G aC1,
    na1_now,
    na1_past,
    f0, _, fun_mk (st := s_is_integer) l0 c0 k0, PySem.W.mg_of X G a0, (fun_mk (st := s_is_integer) l0 c0 k0).binds fun _ _ _ _ _ _ us hl => match us, hl with | [_, _, _], _ => rfl,
    f1, _, fun_mk (st := s_is_page) l1 c1 k1, PySem.W.mg_of X G a1, (fun_mk (st := s_is_page) l1 c1 k1).binds fun _ _ _ _ _ _ us hl => match us, hl with | [_], _ => rfl,
    f2, _, fun_mk (st := s_visited) l2 c2 k2, PySem.W.mg_of X G a2, (fun_mk (st := s_visited) l2 c2 k2).binds fun _ _ _ _ _ _ us hl => match us, hl with | [_, _], _ => rfl,
    f3, _, fun_mk (st := s_exits_in) l3 c3 k3, PySem.W.mg_of X G a3, (fun_mk (st := s_exits_in) l3 c3 k3).binds fun _ _ _ _ _ _ us hl => match us, hl with | [_], _ => rfl,
    f4, _, fun_mk (st := s_is_pair) l4 c4 k4, PySem.W.mg_of X G a4, (fun_mk (st := s_is_pair) l4 c4 k4).binds fun _ _ _ _ _ _ us hl => match us, hl with | [_], _ => rfl,
    f5, _, fun_mk (st := s_leads_to_root) l5 c5 k5, PySem.W.mg_of X G a5, (fun_mk (st := s_leads_to_root) l5 c5 k5).binds fun _ _ _ _ _ _ us hl => match us, hl with | [_, _, _], _ => rfl,
    f6, _, fun_mk (st := s_are_exits) l6 c6 k6, PySem.W.mg_of X G a6, (fun_mk (st := s_are_exits) l6 c6 k6).binds fun _ _ _ _ _ _ us hl => match us, hl with | [_], _ => rfl,
    f7, _, fun_mk (st := s_law_source) l7 c7 k7, PySem.W.mg_of X G a7, (fun_mk (st := s_law_source) l7 c7 k7).binds fun _ _ _ _ _ _ us hl => match us, hl with | [_, _], _ => rfl,
    f8, _, fun_mk (st := s_law_draw) l8 c8 k8, PySem.W.mg_of X G a8, (fun_mk (st := s_law_draw) l8 c8 k8).binds fun _ _ _ _ _ _ us hl => match us, hl with | [_, _], _ => rfl,
    f9, _, fun_mk (st := s_law_cells) l9 c9 k9, PySem.W.mg_of X G a9, (fun_mk (st := s_law_cells) l9 c9 k9).binds fun _ _ _ _ _ _ us hl => match us, hl with | [_, _], _ => rfl,
    f10, _, fun_mk (st := s_law_same) l10 c10 k10, PySem.W.mg_of X G a10, (fun_mk (st := s_law_same) l10 c10 k10).binds fun _ _ _ _ _ _ us hl => match us, hl with | [_, _], _ => rfl,
    f11, _, fun_mk (st := s_law_played) l11 c11 k11, PySem.W.mg_of X G a11, (fun_mk (st := s_law_played) l11 c11 k11).binds fun _ _ _ _ _ _ us hl => match us, hl with | [_, _, _], _ => rfl,
    f12, _, fun_mk (st := s_law_due) l12 c12 k12, PySem.W.mg_of X G a12, (fun_mk (st := s_law_due) l12 c12 k12).binds fun _ _ _ _ _ _ us hl => match us, hl with | [_], _ => rfl,
    f13, _, fun_mk (st := s_law_seen) l13 c13 k13, PySem.W.mg_of X G a13, (fun_mk (st := s_law_seen) l13 c13 k13).binds fun _ _ _ _ _ _ us hl => match us, hl with | [_], _ => rfl,
    f14, _, fun_mk (st := s_law_line) l14 c14 k14, PySem.W.mg_of X G a14, (fun_mk (st := s_law_line) l14 c14 k14).binds fun _ _ _ _ _ _ us hl => match us, hl with | [_, _, _, _], _ => rfl,
    f15, _, fun_mk (st := s_law_visit) l15 c15 k15, PySem.W.mg_of X G a15, (fun_mk (st := s_law_visit) l15 c15 k15).binds fun _ _ _ _ _ _ us hl => match us, hl with | [_, _], _ => rfl,
    f16, _, fun_mk (st := s_law_holds) l16 c16 k16, PySem.W.mg_of X G a16, (fun_mk (st := s_law_holds) l16 c16 k16).binds fun _ _ _ _ _ _ us hl => match us, hl with | [_, _], _ => rfl,
    fa, _, fun_mk (st := s_law) l17 c17 k17, PySem.W.mg_of X G a17, (fun_mk (st := s_law) l17 c17 k17).binds fun _ _ _ _ _ _ us hl => match us, hl with | [_], _ => rfl,
    f18, _, fun_mk (st := s_Effect___init) l18 c18 k18, (fun_mk (st := s_Effect___init) l18 c18 k18).binds fun _ _ _ _ _ _ us hl => match us, hl with | [_, _, _], _ => rfl, ⟨mk0, a18, i18, kc0⟩,
    f19, _, fun_mk (st := s_Effect_first) l19 c19 k19, (fun_mk (st := s_Effect_first) l19 c19 k19).binds fun _ _ _ _ _ _ us hl => match us, hl with | [_], _ => rfl, p19, ⟨a19, g19, t19, ⟨rest19, r19⟩⟩,
    f20, _, fun_mk (st := s_Effect_exits) l20 c20 k20, (fun_mk (st := s_Effect_exits) l20 c20 k20).binds fun _ _ _ _ _ _ us hl => match us, hl with | [_], _ => rfl, p20, ⟨a20, g20, t20, ⟨rest20, r20⟩⟩,
    f21, _, fun_mk (st := s_Effect___len) l21 c21 k21, (fun_mk (st := s_Effect___len) l21 c21 k21).binds fun _ _ _ _ _ _ us hl => match us, hl with | [_], _ => rfl, a21, i21,
    f22, _, fun_mk (st := s_Trail___init) l22 c22 k22,
    (fun_mk (st := s_Trail___init) l22 c22 k22).binds fun _ _ _ _ _ _ us hl => match us, hl with | [_], _ => rfl,
    f23, _, fun_mk (st := s_Trail_trail) l23 c23 k23,
    (fun_mk (st := s_Trail_trail) l23 c23 k23).binds fun _ _ _ _ _ _ us hl => match us, hl with | [_], _ => rfl,
    p23, (each1 ⟨a23_1, g23, t23, ⟨rest23, r23⟩⟩),
    f24, _, fun_mk (st := s_Trail_visits) l24 c24 k24,
    (fun_mk (st := s_Trail_visits) l24 c24 k24).binds fun _ _ _ _ _ _ us hl => match us, hl with | [_], _ => rfl,
    p24, (each1 ⟨a24_1, g24, t24, ⟨rest24, r24⟩⟩),
    f25, _, fun_mk (st := s_Trail_effect) l25 c25 k25,
    (fun_mk (st := s_Trail_effect) l25 c25 k25).binds fun _ _ _ _ _ _ us hl => match us, hl with | [_], _ => rfl,
    p25, (each1 ⟨a25_1, g25, t25, ⟨rest25, r25⟩⟩),
    f26, _, fun_mk (st := s_Trail___len) l26 c26 k26,
    (fun_mk (st := s_Trail___len) l26 c26 k26).binds fun _ _ _ _ _ _ us hl => match us, hl with | [_], _ => rfl,
    (each1 ⟨a26_1, i26⟩),
    f27, _, fun_mk (st := s_Trail___contains) l27 c27 k27,
    (fun_mk (st := s_Trail___contains) l27 c27 k27).binds fun _ _ _ _ _ _ us hl => match us, hl with | [_, _], _ => rfl,
    (each1 ⟨a27_1, i27⟩),
    f28, _, fun_mk (st := s_Trail_shortened) l28 c28 k28,
    (fun_mk (st := s_Trail_shortened) l28 c28 k28).binds fun _ _ _ _ _ _ us hl => match us, hl with | [_, _], _ => rfl,
    (each1 ⟨a28_1, i28, k28⟩),
    f29, _, fun_mk (st := s_Trail_after) l29 c29 k29,
    (fun_mk (st := s_Trail_after) l29 c29 k29).binds fun _ _ _ _ _ _ us hl => match us, hl with | [_, _], _ => rfl,
    (each1 ⟨a29_1, i29, k29⟩),
    f30, _, fun_mk (st := s_Trail_commit) l30 c30 k30,
    (fun_mk (st := s_Trail_commit) l30 c30 k30).binds fun _ _ _ _ _ _ us hl => match us, hl with | [_, _], _ => rfl,
    (each1 ⟨a30_1, i30, k30⟩),
    f31, _, fun_mk (st := s_Trail_visit) l31 c31 k31,
    (each1 ⟨a31_1, i31, k31⟩),
    f32, _, fun_mk (st := s_Trail_undo) l32 c32 k32,
    (fun_mk (st := s_Trail_undo) l32 c32 k32).binds fun _ _ _ _ _ _ us hl => match us, hl with | [_], _ => rfl,
    (each1 ⟨a32_1, i32, k32⟩),
    ⟨mm1, mi1, i22, mk1⟩,
    PySem.W.mg_of X G al_is_page_trails,
    tt_MOST_PAGE, PySem.W.mg_of X G q_MOST_PAGE,
    PySem.W.mg_none_of X G z_all,
    PySem.W.mg_none_of X G z_any,
    PySem.W.mg_none_of X G z_bool,
    PySem.W.mg_none_of X G z_dict,
    PySem.W.mg_none_of X G z_enumerate,
    PySem.W.mg_none_of X G z_int,
    PySem.W.mg_none_of X G z_isinstance,
    PySem.W.mg_none_of X G z_len,
    PySem.W.mg_none_of X G z_list,
    PySem.W.mg_none_of X G z_max,
    PySem.W.mg_none_of X G z_range,
    PySem.W.mg_none_of X G z_sorted,
    PySem.W.mg_none_of X G z_tuple,
    PySem.W.mg_none_of X G z_zip⟩
  exact ⟨T.fd_law, fun s v => .of_eq rfl, fun base _ _ => ok_law T⟩

end LW
open PySem PySem.W PyProof.Rows
set_option maxHeartbeats 0 in
theorem PySem.Challenge.cw_breadcrumbs_k17_visits_at_once_holds : PySem.Challenge.rw_breadcrumbs_k17_visits_at_once.Holds := by
  w_on; o_law; k_head; (case hw => w_witness2)
  k_fill
  refine L2.walk_of (l := PySem.Challenge.rw_breadcrumbs_k17_visits_at_once) (n := 63) (k := 13) (x := "_law_script") (CX := fun _ => L2.CX0) (sp := fun w => LW.spLaw _) rfl (by decide) rfl ⟨rfl, by decide, by decide⟩ (fun w h Y => PySem.W.kIn_of Y) ?F (fun _ _ a ns hl _ hS => ⟨a, ns, rfl, hS, hl, fun _ => rfl⟩) (fun _ _ _ _ _ h => h)
  case F =>
    intro w mg fa h KX G hmg
    refine' LW.all_mk KX G hmg ?xn ?xt ?ax0 ?kx0 ?xx0 ?gx0 ?hx0 ?bx0 ?dx0 ?cx0 ?mx0 ?tx0 ?lx0 ?rx0 ?ax1 ?kx1 ?xx1 ?gx1 ?hx1 ?bx1 ?dx1 ?cx1 ?mx1 ?tx1 ?lx1 ?rx1 ?ax2 ?kx2 ?xx2 ?gx2 ?hx2 ?bx2 ?dx2 ?cx2 ?mx2 ?tx2 ?lx2 ?rx2 ?ax3 ?kx3 ?xx3 ?gx3 ?hx3 ?bx3 ?dx3 ?cx3 ?mx3 ?tx3 ?lx3 ?rx3 ?ax4 ?kx4 ?xx4 ?gx4 ?hx4 ?bx4 ?dx4 ?cx4 ?mx4 ?tx4 ?lx4 ?rx4 ?ax5 ?kx5 ?xx5 ?gx5 ?hx5 ?bx5 ?dx5 ?cx5 ?mx5 ?tx5 ?lx5 ?rx5 ?ndx ?aC0 ?pg0 ?hd0 ?po0 ?sa0 ?na0_begin_page ?na0_pairs ?na0_exit_of ?aC1 ?pg1 ?hd1 ?po1 ?sa1 ?na1_now ?na1_past ?a0 ?l0 ?c0 ?k0 ?a1 ?l1 ?c1 ?k1 ?a2 ?l2 ?c2 ?k2 ?a3 ?l3 ?c3 ?k3 ?a4 ?l4 ?c4 ?k4 ?a5 ?l5 ?c5 ?k5 ?a6 ?l6 ?c6 ?k6 ?a7 ?l7 ?c7 ?k7 ?a8 ?l8 ?c8 ?k8 ?a9 ?l9 ?c9 ?k9 ?a10 ?l10 ?c10 ?k10 ?a11 ?l11 ?c11 ?k11 ?a12 ?l12 ?c12 ?k12 ?a13 ?l13 ?c13 ?k13 ?a14 ?l14 ?c14 ?k14 ?a15 ?l15 ?c15 ?k15 ?a16 ?l16 ?c16 ?k16 ?a17 ?l17 ?c17 ?k17 ?a18 ?i18 ?l18 ?c18 ?k18 ?mk0 ?kc0 ?a19 ?g19 ?t19 ?r19 ?l19 ?c19 ?k19 ?a20 ?g20 ?t20 ?r20 ?l20 ?c20 ?k20 ?a21 ?i21 ?l21 ?c21 ?k21 ?mi1 ?k22 ?l22 ?c22 ?i22 ?a23_1 ?g23 ?t23 ?r23 ?k23 ?l23 ?c23 ?a24_1 ?g24 ?t24 ?r24 ?k24 ?l24 ?c24 ?a25_1 ?g25 ?t25 ?r25 ?k25 ?l25 ?c25 ?a26_1 ?k26 ?l26 ?c26 ?i26 ?a27_1 ?k27 ?l27 ?c27 ?i27 ?a28_1 ?k28 ?l28 ?c28 ?i28 ?a29_1 ?k29 ?l29 ?c29 ?i29 ?a30_1 ?k30 ?l30 ?c30 ?i30 ?a31_1 ?k31 ?l31 ?c31 ?i31 ?a32_1 ?k32 ?l32 ?c32 ?i32 ?mm1 ?mk1 ?al_is_page_trails ?q_MOST_PAGE ?z_all ?z_any ?z_bool ?z_dict ?z_enumerate ?z_int ?z_isinstance ?z_len ?z_list ?z_max ?z_range ?z_sorted ?z_tuple ?z_zip
    (case xn => k_is); (case xt => k_is); (case ax0 => k_is); (case kx0 => k_is); (case xx0 => k_exc); (case gx0 => k_is); (case hx0 => k_is); (case bx0 => k_is); (case dx0 => k_is); (case cx0 => k_is); (case mx0 => k_is); (case tx0 => k_is); (case lx0 => k_is); (case rx0 => rfl); (case ax1 => k_is); (case kx1 => k_is); (case xx1 => k_exc); (case gx1 => k_is); (case hx1 => k_is); (case bx1 => k_is); (case dx1 => k_is); (case cx1 => k_is); (case mx1 => k_is); (case tx1 => k_is); (case lx1 => k_is); (case rx1 => rfl); (case ax2 => k_is); (case kx2 => k_is); (case xx2 => k_exc); (case gx2 => k_is); (case hx2 => k_is); (case bx2 => k_is); (case dx2 => k_is); (case cx2 => k_is); (case mx2 => k_is); (case tx2 => k_is); (case lx2 => k_is); (case rx2 => rfl); (case ax3 => k_is); (case kx3 => k_is); (case xx3 => k_exc); (case gx3 => k_is); (case hx3 => k_is); (case bx3 => k_is); (case dx3 => k_is); (case cx3 => k_is); (case mx3 => k_is); (case tx3 => k_is); (case lx3 => k_is); (case rx3 => rfl); (case ax4 => k_is); (case kx4 => k_is); (case xx4 => k_exc); (case gx4 => k_is); (case hx4 => k_is); (case bx4 => k_is); (case dx4 => k_is); (case cx4 => k_is); (case mx4 => k_is); (case tx4 => k_is); (case lx4 => k_is); (case rx4 => rfl); (case ax5 => k_is); (case kx5 => k_is); (case xx5 => k_exc); (case gx5 => k_is); (case hx5 => k_is); (case bx5 => k_is); (case dx5 => k_is); (case cx5 => k_is); (case mx5 => k_is); (case tx5 => k_is); (case lx5 => k_is); (case rx5 => rfl); (case ndx => decide); (case aC0 => k_is); (case pg0 => k_is); (case hd0 => k_is); (case po0 => k_is); (case sa0 => k_is); (case na0_begin_page => k_is); (case na0_pairs => k_is); (case na0_exit_of => k_is); (case aC1 => k_is); (case pg1 => k_is); (case hd1 => k_is); (case po1 => k_is); (case sa1 => k_is); (case na1_now => k_is); (case na1_past => k_is); (case a0 => k_is); (case l0 => k_is); (case c0 => k_is); (case k0 => k_is); (case a1 => k_is); (case l1 => k_is); (case c1 => k_is); (case k1 => k_is); (case a2 => k_is); (case l2 => k_is); (case c2 => k_is); (case k2 => k_is); (case a3 => k_is); (case l3 => k_is); (case c3 => k_is); (case k3 => k_is); (case a4 => k_is); (case l4 => k_is); (case c4 => k_is); (case k4 => k_is); (case a5 => k_is); (case l5 => k_is); (case c5 => k_is); (case k5 => k_is); (case a6 => k_is); (case l6 => k_is); (case c6 => k_is); (case k6 => k_is); (case a7 => k_is); (case l7 => k_is); (case c7 => k_is); (case k7 => k_is); (case a8 => k_is); (case l8 => k_is); (case c8 => k_is); (case k8 => k_is); (case a9 => k_is); (case l9 => k_is); (case c9 => k_is); (case k9 => k_is); (case a10 => k_is); (case l10 => k_is); (case c10 => k_is); (case k10 => k_is); (case a11 => k_is); (case l11 => k_is); (case c11 => k_is); (case k11 => k_is); (case a12 => k_is); (case l12 => k_is); (case c12 => k_is); (case k12 => k_is); (case a13 => k_is); (case l13 => k_is); (case c13 => k_is); (case k13 => k_is); (case a14 => k_is); (case l14 => k_is); (case c14 => k_is); (case k14 => k_is); (case a15 => k_is); (case l15 => k_is); (case c15 => k_is); (case k15 => k_is); (case a16 => k_is); (case l16 => k_is); (case c16 => k_is); (case k16 => k_is); (case a17 => k_is); (case l17 => k_is); (case c17 => k_is); (case k17 => k_is); (case a18 => k_is); (case i18 => k_is); (case l18 => k_is); (case c18 => k_is); (case k18 => k_is); (case mk0 => k_is); (case kc0 => k_is); (case a19 => k_is); (case g19 => k_is); (case t19 => k_is); (case r19 => k_is); (case l19 => k_is); (case c19 => k_is); (case k19 => k_is); (case a20 => k_is); (case g20 => k_is); (case t20 => k_is); (case r20 => k_is); (case l20 => k_is); (case c20 => k_is); (case k20 => k_is); (case a21 => k_is); (case i21 => k_is); (case l21 => k_is); (case c21 => k_is); (case k21 => k_is); (case mi1 => k_is); (case k22 => k_is); (case l22 => k_is); (case c22 => k_is); (case i22 => k_is); (case a23_1 => k_is); (case g23 => k_is); (case t23 => k_is); (case r23 => k_is); (case k23 => k_is); (case l23 => k_is); (case c23 => k_is); (case a24_1 => k_is); (case g24 => k_is); (case t24 => k_is); (case r24 => k_is); (case k24 => k_is); (case l24 => k_is); (case c24 => k_is); (case a25_1 => k_is); (case g25 => k_is); (case t25 => k_is); (case r25 => k_is); (case k25 => k_is); (case l25 => k_is); (case c25 => k_is); (case a26_1 => k_is); (case k26 => k_is); (case l26 => k_is); (case c26 => k_is); (case i26 => k_is); (case a27_1 => k_is); (case k27 => k_is); (case l27 => k_is); (case c27 => k_is); (case i27 => k_is); (case a28_1 => k_is); (case k28 => k_is); (case l28 => k_is); (case c28 => k_is); (case i28 => k_is); (case a29_1 => k_is); (case k29 => k_is); (case l29 => k_is); (case c29 => k_is); (case i29 => k_is); (case a30_1 => k_is); (case k30 => k_is); (case l30 => k_is); (case c30 => k_is); (case i30 => k_is); (case a31_1 => k_is); (case k31 => k_is); (case l31 => k_is); (case c31 => k_is); (case i31 => k_is); (case a32_1 => k_is); (case k32 => k_is); (case l32 => k_is); (case c32 => k_is); (case i32 => k_is); (case mm1 => k_is); (case mk1 => k_is); (case al_is_page_trails => k_is); (case q_MOST_PAGE => k_is); (case z_all => k_is); (case z_any => k_is); (case z_bool => k_is); (case z_dict => k_is); (case z_enumerate => k_is); (case z_int => k_is); (case z_isinstance => k_is); (case z_len => k_is); (case z_list => k_is); (case z_max => k_is); (case z_range => k_is); (case z_sorted => k_is); (case z_tuple => k_is); (case z_zip => k_is)

