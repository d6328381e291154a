import PyProof.Rows.All
import Wide.All
import OpenK.AllK
import Wide.FinOn
import HandS.ForMost
import HandS.IsInst
import HandS.Style
import HandS.Wide
import HandS.Evl
import HandS.Zip
import HandS.SortKw
import HandS.Conv
import HandS.TupLe
import HandS.RaiseMore
import HandS.Defaults
import HandS.SetFor
import HandS.Strs
import HandS.Property
import HandS.DictComp
import HandS.ListItems
import HandS.DictTup
import HandS.SortRule
import KE.KCallOwn
import PyProof.InstEq
import HandS.More
import HandS.ExcIs
import HandS.ExcValue
import HandS.TryOnly
import HandS.HotCalls
import HandS.WordsExc
import HandS.ExcOwn
import HandS.CallSlots
import HandS.MakeKwOnly
import HandS.Dict
import PySem.Challenge.RW_breadcrumbs_k33_effects_judged
set_option Elab.async false
set_option linter.all false
set_option maxRecDepth 100000
set_option maxHeartbeats 4000000
namespace BC
open PySem PySem.Spec PyProof.Rows L2
section
variable {X : Cx}
/-- a power of a number of any size that matters here -/
def CPowX (i j : Int) : Prop := 0 ≤ j ∧ j ≤ 1000 ∧ i.natAbs.log2 < 100000
theorem op_powX : OpR X (binaryOp .Pow) (rI CPowX fun i j => .int (i ^ j.toNat)) := opI fun i j _ _ _ _ _ hc q => by
  obtain ⟨h0, h1, h2⟩ := hc
  refine pow_int h0 ?_ q
  have hb : Builtin.Int.intBits i ≤ 100000 := by
    unfold Builtin.Int.intBits
    split <;> omega
  have h3 : (Builtin.Int.intBits i : Int) * j ≤ 100000 * j := Int.mul_le_mul_of_nonneg_right (by omega) h0
  omega
/-- a product: one factor small, or both of bounded size -/
def CMulX (i j : Int) : Prop := CMul i j ∨ CMulW i j
theorem op_mulX : OpR X (binaryOp .Mult) (rI CMulX fun i j => .int (i * j)) := opI fun _ _ _ _ _ _ _ hc q => by
  rcases hc with hc | hc
  · exact mul_int q hc.ok
  · exact mul_int q hc.ok
theorem op_fdivX : OpR X (binaryOp .FloorDiv) (rI CDivW fun i j => .int (i / j)) := op_fdivW
theorem op_modX : OpR X (binaryOp .Mod) (rI (fun _ j => 0 < j) fun i j => .int (i % j)) := opI fun i j _ _ _ _ _ hc q => by
  refine mod_int' (show j ≠ 0 by omega) ?_
  rw [Int.fmod_eq_emod_of_nonneg i (by omega)]
  exact q
def ipC (C : Int → Int → Prop) (f : Int → Int → Int) : TIp := fun x y H Q => ∃ i j, x = .int i ∧ y = .int j ∧ C i j ∧ Q (.int (f i j)) H
theorem ip_mulX : PIp X .Mult (ipC CMulX fun i j => i * j) := by
  intro pins s σ H x y v u Q I r1 r2 h
  obtain ⟨i, j, rfl, rfl, hc, q⟩ := h
  obtain ⟨t, rfl⟩ := r1
  obtain ⟨t', rfl⟩ := r2
  have ok : IntMulOk i j := by
    rcases hc with hc | hc
    · exact hc.ok
    · exact hc.ok
  exact imul_int ⟨.int (i * j), H, I.tok _, ⟨_, rfl⟩, q⟩ ok
end
end BC

/-! ### readings opened one construct at a time: full applications alone, so that what stands in a loop is left closed -/
namespace BC
open PySem PySem.Spec PyProof.Rows L2
section
variable {K : PySem.W.Frag} {σ : L2.St} {H : Hp} {Q : VK} {QT : Bool → Hp → Prop} {QA : List V → Hp → Prop} {D : Ends} {ta tb tc : TE} {t u : TT} {a : TA} {r r' : R2} {i j : Nat} {v x y : V} {s1 s2 : TS} {g : TG} {QG : L2.St → Hp → Prop}
def LoopG (J : It) (g : TG) (tb : TS) : TS := fun D σ H => ∃ W : Nat → Nat → L2.St → Hp → Prop, (∃ m, W 0 m σ H) ∧ ∀ i m σ H, W i m σ H →
  (J.stop i H ∧ D.nx σ H) ∨ (J.go i H ∧ ∃ N : L2.St → Hp → Prop, (∀ σ' H', N σ' H' → ∃ m', m' < m ∧ W (i + 1) m' σ' H') ∧ ∀ x H', J.yld i H x H' → g x σ H' fun σ2 H2 => tb { D with nx := N, ct := N, bk := D.nx } σ2 H2)
def LcG (J : It) (g : TG) (tt : TT) (te : TE) (vs : List Nat) (σ : L2.St) (Dl : Addr) (H1 : Hp) (Q : VK) : Prop := ∃ W : Nat → Nat → Hp → Prop, (∃ m, W 0 m (upd H1 Dl (.lst []))) ∧ ∀ i m H, W i m H →
  (J.stop i H ∧ Q (.ref Dl) H) ∨ (J.go i H ∧ ∃ Nx : Hp → Prop, (∀ H', Nx H' → ∃ m', m' < m ∧ W (i + 1) m' H') ∧ ∀ x H', J.yld i H x H' → g x (wipe σ vs) H' fun σ2 H2 => wipe σ2 vs = wipe σ vs ∧ tt σ2 H2 fun b H3 =>
    if b = true then te σ2 H3 fun y H4 => ∃ acc, H4 Dl = some (.lst acc) ∧ acc.length < sizeLine ∧ Nx (upd H4 Dl (.lst (acc ++ [y]))) else Nx H3)
theorem x_seq : tSeq s1 s2 D σ H = s1 { D with nx := s2 D } σ H := rfl
theorem x_next : tNext D σ H = D.nx σ H := rfl
theorem x_brk : tBreak D σ H = D.bk σ H := rfl
theorem x_cnt : tCont D σ H = D.ct σ H := rfl
theorem x_nev : tNever D σ H = False := rfl
theorem x_ret : tRet ta D σ H = ta σ H D.rt := rfl
theorem x_retN : tRetN D σ H = D.rt .non H := rfl
theorem x_drop : tDrop ta D σ H = ta σ H (fun _ H1 => D.nx σ H1) := rfl
theorem x_ifS : tIfS t s1 s2 D σ H = t σ H (fun b H1 => if b = true then s1 D σ H1 else s2 D σ H1) := rfl
theorem x_asg : tAsg ta g D σ H = ta σ H (fun x H1 => g x σ H1 D.nx) := rfl
theorem x_gn : gName i v σ H QG = QG (σ.set i (some v)) H := rfl
theorem x_gsub {o ix : TE} {st : TSet} : gSub o ix st v σ H QG = o σ H (fun o H1 => ix σ H1 fun i H2 => st o i v H2 fun H3 => QG σ H3) := rfl
theorem x_par : tPar i j a D σ H = a σ H (fun vs H1 => ∃ v w, vs = [v, w] ∧ D.nx ((σ.set i (some v)).set j (some w)) H1) := rfl
theorem x_par3 {l : Nat} : tPar3 i j l a D σ H = a σ H (fun vs H1 => ∃ u v w, vs = [u, v, w] ∧ D.nx (((σ.set i (some u)).set j (some v)).set l (some w)) H1) := rfl
theorem x_aug {ti : TIp} : tAug i ta ti D σ H = ∃ x, σ[i]? = some (some x) ∧ ta σ H fun y H1 => ti x y H1 fun z H2 => D.nx (σ.set i (some z)) H2 := rfl
theorem x_for {wi : TI} : tFor wi g s1 D σ H = wi σ H (fun J H1 => LoopG J g s1 D σ H1) := rfl
theorem x_lc {wi : TI} {vs : List Nat} : tLc wi g t ta vs σ H Q = wi σ H (fun J H1 => ∀ Dl, H1 Dl = none → LcG J g t ta vs σ Dl H1 Q) := rfl
theorem x_rng1 {R : It → Hp → Prop} : iRng1 a σ H R = a σ H (fun vs H1 => ∃ j : Int, vs = [.int j] ∧ -(2 ^ 62) ≤ j ∧ j < 2 ^ 62 ∧ R (Itr 0 j.toNat) H1) := rfl
theorem x_rng2 {R : It → Hp → Prop} : iRng2 a σ H R = a σ H (fun vs H1 => ∃ i j : Int, vs = [.int i, .int j] ∧ (-(2 ^ 62) ≤ i ∧ i < 2 ^ 62 ∧ -(2 ^ 62) ≤ j ∧ j < 2 ^ 62) ∧ R (Itr i (j - i).toNat) H1) := rfl
theorem x_rng3 {R : It → Hp → Prop} : iRng3 a σ H R = a σ H (fun vs H1 => ∃ (i j c : Int) (n : Nat), vs = [.int i, .int j, .int c] ∧ RgC i j c n ∧ R (Itc i c n) H1) := rfl
theorem x_ilist {R : It → Hp → Prop} : iList K ta σ H R = ta σ H (fun x H1 => ∃ a, x = .ref a ∧ (∃ xs, SqL K H1 a xs) ∧ R (Itl K a) H1) := rfl
theorem x_itup {R : It → Hp → Prop} : iTup K ta σ H R = ta σ H (fun x H1 => ∃ a, x = .ref a ∧ (∃ xs, SqT K H1 a xs) ∧ R (Itt K a) H1) := rfl
theorem x_ienum {R : It → Hp → Prop} : iEnum K a σ H R = a σ H (fun vs H1 => ∃ a xs, vs = [.ref a] ∧ SqL K H1 a xs ∧ R (Ite K a) H1) := rfl
theorem x_izip {R : It → Hp → Prop} : iZip K a σ H R = a σ H (fun vs H1 => ∃ a b xs ys, vs = [.ref a, .ref b] ∧ SqL K H1 a xs ∧ SqL K H1 b ys ∧ R (Itz K a b) H1) := rfl
theorem x_istr {R : It → Hp → Prop} : iStr ta σ H R = ta σ H (fun v H1 => ∃ x, v = .str x ∧ R (Its x) H1) := rfl
theorem x_var : tVar i σ H Q = ∃ v, σ[i]? = some (some v) ∧ Q v H := rfl
theorem x_c : tC v σ H Q = Q v H := rfl
theorem x_op : tOp r ta tb σ H Q = ta σ H (fun x H1 => tb σ H1 fun y H2 => r x y H2 Q) := rfl
theorem x_un {ru : V → Hp → VK → Prop} : tUn ru ta σ H Q = ta σ H (fun x H1 => ru x H1 Q) := rfl
theorem x_test : tTest ta σ H QT = ta σ H (fun x H' => ∃ k, x = .bl k ∧ QT k H') := rfl
theorem x_b : tB ta σ H QT = ta σ H (fun x H' => ∃ k, x = .bl k ∧ QT k H') := rfl
theorem x_chain : tChain r r' ta tb tc σ H Q = ta σ H (fun x H1 => tb σ H1 fun y H2 => r x y H2 fun z H3 => ∃ k, z = .bl k ∧ (if k = true then tc σ H3 fun w' H4 => r' y w' H4 Q else Q (.bl false) H3)) := rfl
theorem x_and : tAnd t u σ H QT = t σ H (fun c H1 => if c = true then u σ H1 QT else QT false H1) := rfl
theorem x_or : tOr t u σ H QT = t σ H (fun c H1 => if c = true then QT true H1 else u σ H1 QT) := rfl
theorem x_not : tNot t σ H QT = t σ H (fun c H1 => QT (!c) H1) := rfl
theorem x_andV : tAndV ta tb σ H Q = ta σ H (fun x H1 => ∃ c, x = .bl c ∧ if c = true then tb σ H1 Q else Q (.bl false) H1) := rfl
theorem x_orV : tOrV ta tb σ H Q = ta σ H (fun x H1 => ∃ c, x = .bl c ∧ if c = true then Q (.bl true) H1 else tb σ H1 Q) := rfl
theorem x_notV : tNotV ta σ H Q = ta σ H (fun x H1 => ∃ c, x = .bl c ∧ Q (.bl (!c)) H1) := rfl
theorem x_ife : tIf t ta tb σ H Q = t σ H (fun c H1 => if c = true then ta σ H1 Q else tb σ H1 Q) := rfl
theorem x_nil : tNil σ H QA = QA [] H := rfl
theorem x_cons {rest : TA} : tCons ta rest σ H QA = ta σ H (fun x H1 => rest σ H1 fun xs H2 => QA (x :: xs) H2) := rfl
theorem x_lst : tLst a σ H Q = a σ H (fun xs H1 => xs.length ≤ sizeLine ∧ ∀ p, H1 p = none → Q (.ref p) (upd H1 p (.lst xs))) := rfl
theorem x_tup : tTup a σ H Q = a σ H (fun xs H1 => xs.length ≤ sizeLine ∧ ∀ p, H1 p = none → Q (.ref p) (upd H1 p (.tup xs))) := rfl
theorem x_cb {rc : List V → Hp → VK → Prop} : tCB rc a σ H Q = a σ H (fun vs H1 => rc vs H1 Q) := rfl
theorem x_call {sp : Sp} {dvs : List V} {E : XK} : tCall sp dvs E a σ H Q = a σ H (fun vs H1 => sp (vs ++ dvs) H1 Q E) := rfl
theorem x_callK {sp : Sp} {gV : List V → List V → List V} {E : XK} {b : TA} : tCallK sp gV E a b σ H Q = a σ H (fun vs H1 => b σ H1 fun zs H2 => sp (gV vs zs) H2 Q E) := rfl
theorem x_bm {T : String} {rm : V → List V → Hp → VK → Prop} : tBM K T rm ta a σ H Q = ta σ H (fun x H1 => tyV K T x H1 ∧ a σ H1 fun xs H2 => rm x xs H2 Q) := rfl
theorem x_bm0 {T : String} {rm : V → List V → Hp → VK → Prop} : tBM0 K T rm ta σ H Q = ta σ H (fun x H1 => tyV K T x H1 ∧ rm x [] H1 Q) := rfl
theorem x_sl {rs : V → Option Int → Option Int → Hp → VK → Prop} {tl th : TO} : tSl rs ta tl th σ H Q = ta σ H (fun x H1 => tl σ H1 fun l H2 => th σ H2 fun u H3 => rs x l u H3 Q) := rfl
theorem x_nopart {QO : Option Int → Hp → Prop} : tNoPart σ H QO = QO none H := rfl
theorem x_part {QO : Option Int → Hp → Prop} : tPart ta σ H QO = ta σ H (fun x H1 => ∃ i, x = .int i ∧ QO (some i) H1) := rfl
theorem x_revL : tRevL K ta σ H Q = ta σ H (fun x H1 => ∃ a xs, x = .ref a ∧ SqL K H1 a xs ∧ ∀ p, H1 p = none → Q (.ref p) (upd H1 p (.lst xs.reverse))) := rfl
theorem x_I0 {f : Int → Int → V} {m n : Int} : rI0 f (.int m) (.int n) H Q ↔ Q (f m n) H := ⟨fun ⟨i, j, e1, e2, q⟩ => by cases e1; cases e2; exact q, fun q => ⟨m, n, rfl, rfl, q⟩⟩
theorem x_I {C : Int → Int → Prop} {f : Int → Int → V} {m n : Int} : rI C f (.int m) (.int n) H Q ↔ C m n ∧ Q (f m n) H := ⟨fun ⟨i, j, e1, e2, q⟩ => by cases e1; cases e2; exact q, fun q => ⟨m, n, rfl, rfl, q⟩⟩
theorem x_U {f : Int → V} {m : Int} : rU f (.int m) H Q ↔ Q (f m) H := ⟨fun ⟨i, e1, q⟩ => by cases e1; exact q, fun q => ⟨m, rfl, q⟩⟩
theorem x_ip {f : Int → Int → Int} {m n : Int} : ipI f (.int m) (.int n) H Q ↔ Q (.int (f m n)) H := ⟨fun ⟨i, j, e1, e2, q⟩ => by cases e1; cases e2; exact q, fun q => ⟨m, n, rfl, rfl, q⟩⟩
theorem x_ipC {C : Int → Int → Prop} {f : Int → Int → Int} {m n : Int} : ipC C f (.int m) (.int n) H Q ↔ C m n ∧ Q (.int (f m n)) H := ⟨fun ⟨i, j, e1, e2, q⟩ => by cases e1; cases e2; exact q, fun q => ⟨m, n, rfl, rfl, q⟩⟩
theorem x_eqI {m n : Int} : rEq (.int m) (.int n) H Q ↔ Q (.bl (decide (m = n))) H := by
  unfold rEq
  rw [show scal (V.int m) (V.int n) = true from rfl]
  by_cases e : m = n
  · subst e; simp
  · simp [e]
theorem x_neI {m n : Int} : rNe (.int m) (.int n) H Q ↔ Q (.bl (!decide (m = n))) H := by
  unfold rNe
  rw [show scal (V.int m) (V.int n) = true from rfl]
  by_cases e : m = n
  · subst e; simp
  · simp [e]
end
/-! ### the rules that speak of the written part, by its own name -/
section
variable {X : Cx} {K : PySem.W.Frag}
theorem k_pi_list {tg l : Expr} {tl : TE} (hK : X.K = K) (hl : PE X l tl) : PI X tg l (iList K tl) := by subst hK; exact pi_list hl
theorem k_pi_tup {tg l : Expr} {tl : TE} (hK : X.K = K) (hl : PE X l tl) : PI X tg l (iTup K tl) := by subst hK; exact pi_tup hl
theorem k_pi_enum {e : Expr} {ta : TA} {p pos tpos : Pos} {elts : List Expr} {kk : Nat} (hK : X.K = K) (hg : Gl X "enumerate") (hm : X.mg "enumerate" = none) (ha : PA X [e] ta) (hs : starEach [e] X.env = [(false, eval e X.env)] := by rfl) : PI X (.Tuple elts kk tpos) (.Call (.Name "enumerate" p) [e] [] pos) (iEnum K ta) := by subst hK; exact pi_enum hg hm ha hs
theorem k_pi_zip {e e2 : Expr} {ta : TA} {p pos tpos : Pos} {elts : List Expr} {kk : Nat} (hK : X.K = K) (hg : Gl X "zip") (hm : X.mg "zip" = none) (ha : PA X [e, e2] ta)
    (hs : starEach [e, e2] X.env = (false, eval e X.env) :: starEach [e2] X.env := by rfl) (hpl : (backTo pos (starEach [e2] X.env)).any (·.1) = false := by rfl) : PI X (.Tuple elts kk tpos) (.Call (.Name "zip" p) [e, e2] [] pos) (iZip K ta) := by subst hK; exact pi_zip hg hm ha hs hpl
theorem k_ix_list (hK : X.K = K) : IxR X (rIxL K) := by subst hK; exact ix_list
theorem k_ix_tup (hK : X.K = K) : IxR X (rIxT K) := by subst hK; exact ix_tup
theorem k_sl_list (hK : X.K = K) : SlR X (rSlL K) := by subst hK; exact sl_list
theorem k_in (hK : X.K = K) : OpR X (compareOp .In) (rIn K false) := by subst hK; exact op_in_seq
theorem k_notIn (hK : X.K = K) : OpR X (compareOp .NotIn) (rIn K true) := by subst hK; exact op_notIn_seq
theorem k_eqD (hK : X.K = K) (hu : X.A.units + 64 < cLine) : OpR X (compareOp .Eq) (rEqD K) := by subst hK; exact op_eqD hu
theorem k_neD (hK : X.K = K) (hu : X.A.units + 64 < cLine) : OpR X (compareOp .NotEq) (rNeD K) := by subst hK; exact op_neD hu
def rLen (K : PySem.W.Frag) : List V → Hp → VK → Prop := fun xs H Q => ∃ p ys, xs = [.ref p] ∧ (SqL K H p ys ∨ SqT K H p ys) ∧ Q (.int ys.length) H
def rListOf (K : PySem.W.Frag) : List V → Hp → VK → Prop := fun xs H Q => ∃ p ys, xs = [.ref p] ∧ (SqL K H p ys ∨ SqT K H p ys) ∧ ∀ l, H l = none → Q (.ref l) (upd H l (.lst ys))
def rTupOf (K : PySem.W.Frag) : List V → Hp → VK → Prop := fun xs H Q => ∃ p ys, xs = [.ref p] ∧ ((SqL K H p ys ∧ ∀ l, H l = none → Q (.ref l) (upd H l (.tup ys))) ∨ (SqT K H p ys ∧ Q (.ref p) H))
theorem k_len (hK : X.K = K) : CallR X (.builtin "len") (rLen K) := by subst hK; exact call_len_seq
theorem k_listOf (hK : X.K = K) : CallR X (.type "list") (rListOf K) := by subst hK; exact call_list_of
theorem k_tupOf (hK : X.K = K) : CallR X (.type "tuple") (rTupOf K) := by subst hK; exact call_tuple_of
theorem k_isi (hK : X.K = K) : CallR X (.builtin "isinstance") (rIsi K) := by subst hK; exact call_isi
theorem k_sum (hK : X.K = K) (hc : X.calm = true) : CallR X (.builtin "sum") (rSum K) := by subst hK; exact cr_sum hc
theorem k_all (hK : X.K = K) (hc : X.calm = true) : CallR X (.builtin "all") (rAll K) := by subst hK; exact cr_all hc
theorem k_any (hK : X.K = K) (hc : X.calm = true) : CallR X (.builtin "any") (rAny K) := by subst hK; exact cr_any hc
theorem k_sorted (hK : X.K = K) : CallR X (.builtin "sorted") (rSorted K) := by subst hK; exact cr_sorted
def tTruK (K : PySem.W.Frag) (ta : TE) : TT := fun σ H Q => ta σ H fun x H' => ∃ k, TruV K x H' k ∧ Q k H'
theorem k_truth {a : Expr} {ta : TE} (hK : X.K = K) (ha : PE X a ta) (he : ∀ whole, isTrue a X.env whole = (do let v ← whole; standAt a.pos; holding [v] (truthy v))) : PT X a (tTruK K ta) := by subst hK; exact pt_truth ha he
theorem k_tup {es : List Expr} {k n : Nat} {pos : Pos} {t : TGs} (hK : X.K = K) (hc : X.calm = true) (h : PGs X es t)
    (hn : (assignEach es X.env).length = n := by rfl) (hst : (assignEach es X.env).findIdx? (·.1) = none := by rfl) : PG X (.Tuple es k pos) (gTup K n t) := by subst hK; exact pg_tup hc h hn hst
theorem k_bm0 {T : String} {to : TE} {r : V → List V → Hp → VK → Prop} {e : Expr} (hK : X.K = K) (h : PE X e (tBM0 X.K T r to)) : PE X e (tBM0 K T r to) := by subst hK; exact h
theorem k_bm {T : String} {to : TE} {ta : TA} {r : V → List V → Hp → VK → Prop} {e : Expr} (hK : X.K = K) (h : PE X e (tBM X.K T r to ta)) : PE X e (tBM K T r to ta) := by subst hK; exact h
theorem k_rev {e : Expr} {te : TE} {k : Nat} {p1 p2 p3 pos : Pos} (hK : X.K = K) (he : PE X e te) : PE X (.Subscript e (.Slice none none (some (.UnaryOp .USub (.Constant (.int 1) k p1) p2)) p3) pos) (tRevL K te) := by subst hK; exact pe_revL he
theorem k_index (hK : X.K = K) : MtR X "list.index" (rIndex K) := by subst hK; exact mt_index
end
section
variable {K : PySem.W.Frag} {σ : L2.St} {H : Hp} {ta : TE} {QT : Bool → Hp → Prop}
theorem x_tru : tTruK K ta σ H QT = ta σ H (fun x H' => ∃ k, TruV K x H' k ∧ QT k H') := rfl
end
/-! ### loops -/
section
variable {K : PySem.W.Frag} {σ : L2.St} {H : Hp} {D : Ends} {g : TG} {tb : TS}
theorem lg_rng {lo : Int} {n : Nat} (Pv : Nat → L2.St → Hp → Prop) (h0 : Pv 0 σ H)
    (hs : ∀ i σ H, i < n → Pv i σ H → g (.int (lo + i)) σ H fun σ2 H2 => tb { D with nx := Pv (i + 1), ct := Pv (i + 1), bk := D.nx } σ2 H2) (hd : ∀ σ H, Pv n σ H → D.nx σ H) : LoopG (Itr lo n) g tb D σ H := for_range Pv h0 hs hd
theorem lg_rngC {lo c : Int} {n : Nat} (Pv : Nat → L2.St → Hp → Prop) (h0 : Pv 0 σ H)
    (hs : ∀ i σ H, i < n → Pv i σ H → g (.int (lo + (i : Nat) * c)) σ H fun σ2 H2 => tb { D with nx := Pv (i + 1), ct := Pv (i + 1), bk := D.nx } σ2 H2) (hd : ∀ σ H, Pv n σ H → D.nx σ H) : LoopG (Itc lo c n) g tb D σ H := for_rangeC Pv h0 hs hd
theorem lg_list {a : Addr} {xs : List V} (Pv : Nat → L2.St → Hp → Prop) (h0 : Pv 0 σ H) (hl : ∀ i σ H, i ≤ xs.length → Pv i σ H → SqL K H a xs)
    (hs : ∀ i x σ H, xs[i]? = some x → Pv i σ H → g x σ H fun σ2 H2 => tb { D with nx := Pv (i + 1), ct := Pv (i + 1), bk := D.nx } σ2 H2) (hd : ∀ σ H, Pv xs.length σ H → D.nx σ H) : LoopG (Itl K a) g tb D σ H := for_list Pv h0 hl hs hd
/-- enumerate over a list that stands still: each pair is a new tuple -/
theorem lg_enum {a : Addr} {xs : List V} (Pv : Nat → L2.St → Hp → Prop) (h0 : Pv 0 σ H) (hl : ∀ i σ H, i ≤ xs.length → Pv i σ H → SqL K H a xs)
    (hs : ∀ i x σ H T, xs[i]? = some x → Pv i σ H → H T = none → g (.ref T) σ (upd H T (.tup [.int (i : Nat), x])) fun σ2 H2 => tb { D with nx := Pv (i + 1), ct := Pv (i + 1), bk := D.nx } σ2 H2) (hd : ∀ σ H, Pv xs.length σ H → D.nx σ H) : LoopG (Ite K a) g tb D σ H := by
  refine ⟨fun i m σ H => m = xs.length - i ∧ i ≤ xs.length ∧ Pv i σ H, ⟨xs.length, by simp, Nat.zero_le _, h0⟩, ?_⟩
  rintro i m σ H ⟨rfl, hi, p⟩
  have q := hl i σ H hi p
  by_cases hlt : i < xs.length
  · refine .inr ⟨⟨xs, xs[i], q, by simp [hlt]⟩, Pv (i + 1), fun σ' H' p' => ⟨xs.length - (i + 1), by omega, rfl, hlt, p'⟩, fun x H' y => ?_⟩
    obtain ⟨T, x', rfl, hT, rfl, f⟩ := y
    exact hs i x' σ H T (f xs q) p hT
  · have e : i = xs.length := by omega
    subst e
    exact .inl ⟨⟨xs, q, Nat.le_refl _⟩, hd σ H p⟩
/-- a pair unpacked -/
theorem g_two {i j : Nat} {T : Addr} {x y : V} {QG : L2.St → Hp → Prop} (h : H T = some (.tup [x, y])) (q : QG ((σ.set i (some x)).set j (some y)) H) : gTup K 2 (gCons (gName i) (gCons (gName j) gNil)) (.ref T) σ H QG :=
  ⟨T, [x, y], rfl, .inl (.inl h), rfl, x, [y], rfl, y, [], rfl, rfl, q⟩
end
/-! ### comprehensions over lists whose elements are given by a function of the turn -/
section
variable {K : PySem.W.Frag} {σ : L2.St} {H1 : Hp} {g : TG} {tt : TT} {te : TE} {vs : List Nat} {Dl : Addr} {Q : VK}
theorem lc_g (n : Nat) {J : It} (Pv : Nat → Hp → Prop) (h0 : Pv 0 (upd H1 Dl (.lst []))) (hst : ∀ H, Pv n H → J.stop n H) (hgo : ∀ i H, i < n → Pv i H → J.go i H)
    (hs : ∀ i H x H', i < n → Pv i H → J.yld i H x H' → g x (wipe σ vs) H' fun σ2 H2 => wipe σ2 vs = wipe σ vs ∧ tt σ2 H2 fun b H3 =>
      if b = true then te σ2 H3 fun y H4 => ∃ acc, H4 Dl = some (.lst acc) ∧ acc.length < sizeLine ∧ Pv (i + 1) (upd H4 Dl (.lst (acc ++ [y]))) else Pv (i + 1) H3) (hd : ∀ H, Pv n H → Q (.ref Dl) H) : LcG J g tt te vs σ Dl H1 Q := by
  refine ⟨fun i m H => m = n - i ∧ i ≤ n ∧ Pv i H, ⟨n, by simp, Nat.zero_le _, h0⟩, ?_⟩
  rintro i m H ⟨rfl, hi, p⟩
  by_cases hlt : i < n
  · exact .inr ⟨hgo i H hlt p, Pv (i + 1), fun H' p' => ⟨n - (i + 1), by omega, rfl, hlt, p'⟩, fun x H' y => hs i H x H' hlt p y⟩
  · have e : i = n := by omega
    subst e
    exact .inl ⟨hst H p, hd H p⟩
end
/-! ### comprehensions that change nothing -/
section
variable {K : PySem.W.Frag} {σ : L2.St} {H1 : Hp} {g : TG} {tt : TT} {te : TE} {vs : List Nat} {Dl : Addr} {Q : VK}
def kept (n : Nat) (keep : Nat → Bool) (f : Nat → V) : List V := ((List.range n).filter keep).map f
theorem kept_yes {n : Nat} {k : Nat → Bool} {f : Nat → V} (h : k n = true) : kept (n + 1) k f = kept n k f ++ [f n] := by
  unfold kept
  rw [List.range_succ, List.filter_append, List.map_append]
  simp [h]
theorem kept_no {n : Nat} {k : Nat → Bool} {f : Nat → V} (h : k n = false) : kept (n + 1) k f = kept n k f := by
  unfold kept
  rw [List.range_succ, List.filter_append, List.map_append]
  simp [h]
theorem kept_len (n : Nat) (k : Nat → Bool) (f : Nat → V) : (kept n k f).length ≤ n := by
  unfold kept
  rw [List.length_map]
  exact Nat.le_trans (List.length_filter_le _ _) (by rw [List.length_range]; exact Nat.le_refl _)
theorem kept_all (n : Nat) (f : Nat → V) : kept n (fun _ => true) f = (List.range n).map f := by
  unfold kept
  rw [List.filter_eq_self.mpr (by simp)]
theorem lc_pure {J : It} (n : Nat) (item : Nat → L2.St) (keep : Nat → Bool) (f : Nat → V) (hD : H1 Dl = none) (hn : n ≤ 100000)
    (hst : ∀ H', Evl.Ex H1 H' → J.stop n H') (hgo : ∀ i H', i < n → Evl.Ex H1 H' → J.go i H')
    (hy : ∀ i H' x H'' (QG : L2.St → Hp → Prop), i < n → Evl.Ex H1 H' → J.yld i H' x H'' → (Evl.Ex H' H'' → QG (item i) H'') → g x (wipe σ vs) H'' QG)
    (hw : ∀ i, i < n → wipe (item i) vs = wipe σ vs) (ht : ∀ i, i < n → Evl.EvT tt (item i) H1 (keep i)) (he : ∀ i, i < n → keep i = true → Evl.Ev te (item i) H1 (f i))
    (hd : ∀ H', Evl.Ex H1 H' → H' Dl = some (.lst (kept n keep f)) → Q (.ref Dl) H') : LcG J g tt te vs σ Dl H1 Q := by
  refine lc_g n (fun i H' => Evl.Ex H1 H' ∧ H' Dl = some (.lst (kept i keep f))) ⟨Evl.Ex.new hD, upd_same⟩ (fun H' h => hst H' h.1) (fun i H' hi h => hgo i H' hi h.1) (fun i H' x H'' hi h y => ?_) (fun H' h => hd H' h.1 h.2)
  obtain ⟨e, hl⟩ := h
  refine hy i H' x H'' _ hi e y fun e2 => ⟨hw i hi, ht i hi H'' (e.trans e2) _ fun H3 e3 => ?_⟩
  have hl3 := e3 _ _ (e2 _ _ hl)
  cases hk : keep i with
  | false =>
    show (if false = true then _ else _)
    rw [if_neg Bool.false_ne_true, kept_no hk]
    exact ⟨(e.trans e2).trans e3, hl3⟩
  | true =>
    show (if true = true then _ else _)
    rw [if_pos rfl]
    refine he i hi hk H3 ((e.trans e2).trans e3) _ fun H4 e4 => ⟨_, e4 _ _ hl3, Nat.lt_of_lt_of_le (Nat.lt_of_le_of_lt (kept_len i keep f) hi) (Nat.le_trans hn (by decide)), ?_⟩
    rw [kept_yes hk]
    exact ⟨(((e.trans e2).trans e3).trans e4).mut hD, upd_same⟩
theorem tyes {σ : L2.St} {H : Hp} : Evl.EvT tYes σ H true := fun H1 _ _ q => q H1 (Evl.Ex.refl H1)
theorem lc_enum {a : Addr} {xs : List V} {j k : Nat} (keep : Nat → Bool) (f : Nat → V) (hx : SqL K H1 a xs) (hD : H1 Dl = none) (hn : xs.length ≤ 100000)
    (hw : ∀ u v : V, wipe (((wipe σ vs).set j (some u)).set k (some v)) vs = wipe σ vs)
    (ht : ∀ i x, xs[i]? = some x → Evl.EvT tt (((wipe σ vs).set j (some (.int (i : Nat)))).set k (some x)) H1 (keep i))
    (he : ∀ i x, xs[i]? = some x → keep i = true → Evl.Ev te (((wipe σ vs).set j (some (.int (i : Nat)))).set k (some x)) H1 (f i))
    (hd : ∀ H', Evl.Ex H1 H' → H' Dl = some (.lst (kept xs.length keep f)) → Q (.ref Dl) H') : LcG (Ite K a) (gTup K 2 (gCons (gName j) (gCons (gName k) gNil))) tt te vs σ Dl H1 Q := by
  refine lc_pure xs.length (fun i => ((wipe σ vs).set j (some (.int (i : Nat)))).set k (some (xs.getD i .non))) keep f hD hn (fun H' e => ⟨xs, Evl.ex_l e hx, Nat.le_refl _⟩) (fun i H' hi e => ⟨xs, xs[i], Evl.ex_l e hx, List.getElem?_eq_getElem hi⟩)
    (fun i H' x H'' QG hi e y q => ?_) (fun i hi => hw _ _) (fun i hi => ht i _ (by rw [List.getD_eq_getElem?_getD, List.getElem?_eq_getElem hi]; rfl)) (fun i hi => he i _ (by rw [List.getD_eq_getElem?_getD, List.getElem?_eq_getElem hi]; rfl)) hd
  obtain ⟨T, v, rfl, hT, rfl, hf⟩ := y
  have hv := hf xs (Evl.ex_l e hx)
  have e1 : xs.getD i .non = v := by rw [List.getD_eq_getElem?_getD, hv]; rfl
  refine g_two upd_same ?_
  have q2 := q (Evl.Ex.new hT)
  rw [e1] at q2
  exact q2
theorem lc_list {a : Addr} {xs : List V} {j : Nat} (keep : Nat → Bool) (f : Nat → V) (hx : SqL K H1 a xs) (hD : H1 Dl = none) (hn : xs.length ≤ 100000)
    (hw : ∀ u : V, wipe ((wipe σ vs).set j (some u)) vs = wipe σ vs)
    (ht : ∀ i x, xs[i]? = some x → Evl.EvT tt ((wipe σ vs).set j (some x)) H1 (keep i))
    (he : ∀ i x, xs[i]? = some x → keep i = true → Evl.Ev te ((wipe σ vs).set j (some x)) H1 (f i))
    (hd : ∀ H', Evl.Ex H1 H' → H' Dl = some (.lst (kept xs.length keep f)) → Q (.ref Dl) H') : LcG (Itl K a) (gName j) tt te vs σ Dl H1 Q := by
  refine lc_pure xs.length (fun i => (wipe σ vs).set j (some (xs.getD i .non))) keep f hD hn (fun H' e => ⟨xs, Evl.ex_l e hx, Nat.le_refl _⟩) (fun i H' hi e => ⟨xs, xs[i], Evl.ex_l e hx, List.getElem?_eq_getElem hi⟩)
    (fun i H' x H'' QG hi e y q => ?_) (fun i hi => hw _) (fun i hi => ht i _ (by rw [List.getD_eq_getElem?_getD, List.getElem?_eq_getElem hi]; rfl)) (fun i hi => he i _ (by rw [List.getD_eq_getElem?_getD, List.getElem?_eq_getElem hi]; rfl)) hd
  obtain ⟨rfl, hf⟩ := y
  have hv := hf xs (Evl.ex_l e hx)
  have e1 : xs.getD i .non = x := by rw [List.getD_eq_getElem?_getD, hv]; rfl
  show QG _ _
  rw [← e1]
  exact q (Evl.Ex.refl _)
theorem lc_rng {lo : Int} {n j : Nat} (keep : Nat → Bool) (f : Nat → V) (hD : H1 Dl = none) (hn : n ≤ 100000)
    (hw : ∀ u : V, wipe ((wipe σ vs).set j (some u)) vs = wipe σ vs)
    (ht : ∀ i, i < n → Evl.EvT tt ((wipe σ vs).set j (some (.int (lo + i)))) H1 (keep i))
    (he : ∀ i, i < n → keep i = true → Evl.Ev te ((wipe σ vs).set j (some (.int (lo + i)))) H1 (f i))
    (hd : ∀ H', Evl.Ex H1 H' → H' Dl = some (.lst (kept n keep f)) → Q (.ref Dl) H') : LcG (Itr lo n) (gName j) tt te vs σ Dl H1 Q := by
  refine lc_pure n (fun i => (wipe σ vs).set j (some (.int (lo + i)))) keep f hD hn (fun H' e => Nat.le_refl _) (fun i H' hi e => hi)
    (fun i H' x H'' QG hi e y q => ?_) (fun i hi => hw _) ht he hd
  obtain ⟨rfl, rfl⟩ := y
  exact q (Evl.Ex.refl _)
end
/-! ### operations on values -/
section
variable {K : PySem.W.Frag} {H : Hp} {Q : VK}
theorem isi_int {i : Int} {T : String} {b : Bool} (h : kitB "int" T = some b) (q : Q (.bl b) H) : rIsi K [.int i, .ty T] H Q :=
  ⟨.int i, .ty T, .type "int", .type T, b, rfl, .ty T, .base (.int i), kit_ty h, q⟩
theorem ixL {p : Addr} {xs : List V} {i : Int} {v : V} (h : SqL K H p xs) (hi : atI xs i = some v) (q : Q v H) : rIxL K (.ref p) (.int i) H Q := ⟨p, xs, i, v, rfl, rfl, h, hi, q⟩
theorem setL {p : Addr} {xs : List V} {i : Int} {j : Nat} {v : V} {R : Hp → Prop} (h : H p = some (.lst xs)) (hj : ixN xs.length i = some j) (q : R (upd H p (.lst (xs.set j v)))) : rSetL (.ref p) (.int i) v H R := ⟨p, xs, i, j, rfl, rfl, h, hj, q⟩
theorem repL {p : Addr} {xs : List V} {k : Int} (h : H p = some (.lst xs)) (h1 : -(2 ^ 63) ≤ k) (h2 : k < 2 ^ 63) (hz : xs.length * k.toNat ≤ sizeLine) (q : ∀ l, H l = none → Q (.ref l) (upd H l (.lst (List.replicate k.toNat xs).flatten))) : rRep (.ref p) (.int k) H Q := ⟨p, k, xs, rfl, rfl, h, h1, h2, hz, q⟩
theorem catL {p b : Addr} {xs ys : List V} (h : H p = some (.lst xs)) (hb : H b = some (.lst ys)) (hz : xs.length + ys.length ≤ sizeLine) (q : ∀ l, H l = none → Q (.ref l) (upd H l (.lst (xs ++ ys)))) : rCat (.ref p) (.ref b) H Q := ⟨p, b, xs, ys, rfl, rfl, h, hb, hz, q⟩
theorem sumL {p : Addr} {ns : List Int} (h : SqL K H p (ns.map V.int)) (q : Q (.int ns.sum) H) : rSum K [.ref p] H Q := ⟨p, ns, rfl, h, q⟩
theorem appL {p : Addr} {xs : List V} {y : V} (h : H p = some (.lst xs)) (hz : xs.length < sizeLine) (q : Q .non (upd H p (.lst (xs ++ [y])))) : rAppend (.ref p) [y] H Q := ⟨p, xs, y, rfl, rfl, h, hz, q⟩
theorem tyL {p : Addr} {xs : List V} (h : H p = some (.lst xs)) : tyV K "list" (.ref p) H := Or.inl ⟨rfl, _, Or.inl (Or.inl h)⟩
theorem atI_n {xs : List V} {i : Int} {j : Nat} {v : V} (e : i = (j : Int)) (h : xs[j]? = some v) : atI xs i = some v := by
  subst e
  have hj := (List.getElem?_eq_some_iff.mp h).1
  unfold atI ixN
  rw [if_pos (by omega), if_pos (by omega)]
  exact h
theorem ixN_n {n : Nat} {i : Int} {j : Nat} (e : i = (j : Int)) (h : j < n) : ixN n i = some j := by
  subst e
  unfold ixN
  rw [if_pos (by omega), if_pos (by omega)]
  rfl
theorem sz_ok {n : Nat} (h : n ≤ 100000) : n ≤ sizeLine := Nat.le_trans h (by decide)
theorem sz_lt {n : Nat} (h : n < 100000) : n < sizeLine := Nat.lt_of_lt_of_le h (by decide)
end
end BC

set_option Elab.async false
set_option linter.all false
set_option maxRecDepth 100000
set_option maxHeartbeats 4000000
namespace BC
open PySem PySem.Spec PyProof.Rows L2 Evl RZ
/-! ### all but the object at b stands -/
def Fx (b : Addr) (H H' : Hp) : Prop := ∀ a o, a ≠ b → H a = some o → H' a = some o
theorem Fx.refl (b : Addr) (H : Hp) : Fx b H H := fun _ _ _ h => h
theorem Fx.trans {b : Addr} {H H1 H2 : Hp} (x : Fx b H H1) (y : Fx b H1 H2) : Fx b H H2 := fun a o n h => y a o n (x a o n h)
theorem Fx.of {b : Addr} {H H' : Hp} (e : Ex H H') : Fx b H H' := fun a o _ h => e a o h
theorem Fx.put {b : Addr} {H : Hp} {o : HO} : Fx b H (upd H b o) := fun a u n h => by rw [upd_ne n]; exact h
theorem Fx.ex {b : Addr} {H H' : Hp} (x : Fx b H H') (h : H b = none) : Ex H H' := fun a o e => x a o (ne_of_none e h) e
theorem Fx.l {K : PySem.W.Frag} {b a : Addr} {H H' : Hp} {xs : List V} (x : Fx b H H') (n : a ≠ b) (h : SqL K H a xs) : SqL K H' a xs := by
  rcases h with h | h
  · rcases h with h | ⟨o, h⟩
    · exact .inl (.inl (x a _ n h))
    · exact .inl (.inr ⟨o, x a _ n h⟩)
  · exact .inr h
/-! ### lists -/
theorem cutV_mem {xs : List V} {lo hi : Option Int} {x : V} (h : x ∈ cutV xs lo hi) : x ∈ xs := by
  unfold cutV at h
  exact List.mem_of_mem_drop (List.mem_of_mem_take h)
theorem cutV_len (xs : List V) (lo hi : Option Int) : (cutV xs lo hi).length ≤ xs.length := by
  unfold cutV
  rw [List.length_take, List.length_drop]
  omega
theorem two_at0 {x y r : Int} {n : Nat} (h0 : 0 ≤ r) (h1 : r < 2) (hx0 : 0 ≤ x) (hx1 : x ≤ n) (hy0 : 0 ≤ y) (hy1 : y ≤ n) : ∃ m : Nat, m ≤ n ∧ atI [V.int x, V.int y] r = some (.int m) := by
  by_cases e : r = 0
  · exact ⟨x.toNat, by omega, by rw [Int.toNat_of_nonneg hx0]; exact atI_n (j := 0) e rfl⟩
  · exact ⟨y.toNat, by omega, by rw [Int.toNat_of_nonneg hy0]; exact atI_n (j := 1) (by omega) rfl⟩
theorem two_at {x y r : Int} {n : Nat} (h0 : 0 ≤ r) (h1 : r < 2) (hx0 : 1 ≤ x) (hx1 : x ≤ n) (hy0 : 1 ≤ y) (hy1 : y ≤ n) : ∃ m : Nat, 1 ≤ m ∧ m ≤ n ∧ atI [V.int x, V.int y] r = some (.int m) := by
  by_cases e : r = 0
  · exact ⟨x.toNat, by omega, by omega, by rw [Int.toNat_of_nonneg (by omega)]; exact atI_n (j := 0) e rfl⟩
  · exact ⟨y.toNat, by omega, by omega, by rw [Int.toNat_of_nonneg (by omega)]; exact atI_n (j := 1) (by omega) rfl⟩
/-- a written list read at a drawn place -/
theorem pick {xs : List V} {r : Int} (h0 : 0 ≤ r) (h1 : r < xs.length) : ∃ v, v ∈ xs ∧ atI xs r = some v := by
  have hj : r.toNat < xs.length := by omega
  exact ⟨xs[r.toNat], List.getElem_mem hj, atI_n (j := r.toNat) (by omega) (List.getElem?_eq_getElem hj)⟩
theorem rep_one (n : Nat) (v : V) : (List.replicate n [v]).flatten = List.replicate n v := by
  induction n with
  | zero => rfl
  | succ n ih => rw [List.replicate_succ, List.flatten_cons, ih]; rfl
theorem take_succ {xs : List V} {i : Nat} {v : V} (h : xs[i]? = some v) : xs.take (i + 1) = xs.take i ++ [v] := by
  rw [List.take_add_one, h]
  rfl
theorem log2_small {i : Int} {k : Nat} (hk : 0 < k) (h : i.natAbs < 2 ^ k) : i.natAbs.log2 < k := PySem.Flt.log2_lt_of hk h
/-! ### kinds -/
section
variable {X : Cx} {K : PySem.W.Frag} {H : Hp} {Q : VK}
theorem k_pi_zipA {e e2 : Expr} {ta : TA} {p pos tpos : Pos} {elts : List Expr} {kk : Nat} (hK : X.K = K) (hg : Gl X "zip") (hm : X.mg "zip" = none) (ha : PA X [e, e2] ta)
    (hs : starEach [e, e2] X.env = (false, eval e X.env) :: starEach [e2] X.env := by rfl) (hpl : (backTo pos (starEach [e2] X.env)).any (·.1) = false := by rfl) : PI X (.Tuple elts kk tpos) (.Call (.Name "zip" p) [e, e2] [] pos) (iZipA K ta) := by subst hK; exact pi_zipA hg hm ha hs hpl
theorem k_isiT (hK : X.K = K) : CallR X (.builtin "isinstance") (rIsiT K) := by subst hK; exact call_isiT
theorem tyx_l {a : Addr} {xs : List V} (h : SqL K H a xs) : TyX K H (.ref a) (.type "list") := by
  rcases h with (h | ⟨o, h⟩) | ⟨o, its, n, h, c, _⟩
  · exact .base (.lst h)
  · exact .base (.frz h)
  · exact .kList h c
theorem tyx_t {a : Addr} {xs : List V} (h : SqT K H a xs) : TyX K H (.ref a) (.type "tuple") := by
  rcases h with (h | ⟨o, h⟩) | ⟨o, its, n, h, c, _⟩
  · exact .base (.tup h)
  · exact .fTuple h
  · exact .kTuple h c
def tyn : PyData → String
  | .none => "NoneType"
  | .bool _ => "bool"
  | .int _ => "int"
  | .str _ => "str"
  | .list _ => "list"
  | .tuple _ => "tuple"
  | .dict _ => "dict"
theorem tyx_d {v : V} {d : PyData} (h : Dp K H v d) : TyX K H v (.type (tyn d)) := by
  cases h with
  | non => exact .base .non
  | bl b => exact .base (.bl b)
  | int i => exact .base (.int i)
  | str x => exact .base (.str x)
  | lst h _ => exact tyx_l h
  | tup h _ => exact tyx_t h
theorem isi_x {v : V} {A T : String} {b : Bool} (h : TyX K H v (.type A)) (hk : kitB A T = some b) (q : Q (.bl b) H) : rIsi K [v, .ty T] H Q :=
  ⟨v, .ty T, .type A, .type T, b, rfl, .ty T, h, kit_ty hk, q⟩
theorem kit_two {A B C : String} {b c : Bool} (h1 : kitB A B = some b) (h2 : kitB A C = some c) : PySem.W.kitAny K (.type A) [.type B, .type C] = some (b || c) := by
  refine kitAny_cons (kit_ty h1) (fun e => ?_) (fun e => by rw [e]; rfl)
  subst e
  refine kitAny_cons (kit_ty h2) (fun e => ?_) (fun e => by rw [e]; rfl)
  subst e
  exact kitAny_nil
theorem isiT2 {v : V} {p : Addr} {A B C : String} {b c : Bool} (h : TyX K H v (.type A)) (hp : H p = some (.tup [.ty B, .ty C])) (h1 : kitB A B = some b) (h2 : kitB A C = some c) (q : Q (.bl (b || c)) H) : rIsiT K [v, .ref p] H Q :=
  ⟨v, p, [.ty B, .ty C], .type A, [.type B, .type C], b || c, rfl, hp, .cons (.ty B) (.cons (.ty C) .nil), h, kit_two h1 h2, q⟩
theorem ex_d {H H' : Hp} (e : Ex H H') : ∀ (d : PyData) (v : V), Dp K H v d → Dp K H' v d
  | .none, _, h => by cases h; exact .non
  | .bool _, _, h => by cases h; exact .bl _
  | .int _, _, h => by cases h; exact .int _
  | .str _, _, h => by cases h; exact .str _
  | .dict _, _, h => by cases h
  | .list ds, _, h => by
    cases h with
    | lst h1 h2 => exact .lst (ex_l e h1) (all ds _ h2)
  | .tuple ds, _, h => by
    cases h with
    | tup h1 h2 => exact .tup (ex_t e h1) (all ds _ h2)
where
  all : ∀ (ds : List PyData) (vs : List V), DpAll K H vs ds → DpAll K H' vs ds
  | [], _, h => by cases h; exact .nil
  | d :: ds, _, h => by
    cases h with
    | cons h1 h2 => exact .cons (ex_d e d _ h1) (all ds _ h2)
theorem dp_len : ∀ {vs : List V} {ds : List PyData}, DpAll K H vs ds → vs.length = ds.length
  | _, _, .nil => rfl
  | _, _, .cons _ h => by rw [List.length_cons, List.length_cons, dp_len h]
theorem dp_at : ∀ {vs : List V} {ds : List PyData} {i : Nat} {v : V}, DpAll K H vs ds → vs[i]? = some v → ∃ d, ds[i]? = some d ∧ Dp K H v d
  | _, _, _, _, .nil, e => by simp at e
  | _, _, 0, _, .cons h _, e => by simp at e; subst e; exact ⟨_, rfl, h⟩
  | _, _, i + 1, _, .cons _ h, e => by
    obtain ⟨d, e1, e2⟩ := dp_at (i := i) h (by simpa using e)
    exact ⟨d, by simpa using e1, e2⟩
theorem dp_ints : ∀ ns : List Int, DpAll K H (ns.map V.int) (ns.map PyData.int)
  | [] => .nil
  | n :: ns => .cons (.int n) (dp_ints ns)
/-- data of so many levels, of moderate size -/
inductive Sh : Nat → PyData → Prop
  | non (n : Nat) : Sh n .none
  | bl (n : Nat) (b : Bool) : Sh n (.bool b)
  | int (n : Nat) (i : Int) : Sh n (.int i)
  | str (n : Nat) (x : Str) : Sh n (.str x)
  | lst {n : Nat} {ds : List PyData} (hl : ds.length ≤ 100000) (h : ∀ d ∈ ds, Sh n d) : Sh (n + 1) (.list ds)
  | tup {n : Nat} {ds : List PyData} (hl : ds.length ≤ 100000) (h : ∀ d ∈ ds, Sh n d) : Sh (n + 1) (.tuple ds)
theorem sh_ints (ns : List Int) (h : ns.length ≤ 100000) : Sh 1 (.list (ns.map PyData.int)) := .lst (by rw [List.length_map]; exact h) fun d hd => by
  obtain ⟨n, _, rfl⟩ := List.mem_map.mp hd
  exact .int 0 n
end
/-! ### more readings -/
section
variable {K : PySem.W.Frag} {σ : L2.St} {H H1 : Hp} {g : TG} {tt : TT} {te : TE} {vs : List Nat} {Dl : Addr} {Q : VK}
theorem x_eqB {m n : Bool} : rEq (.bl m) (.bl n) H Q ↔ Q (.bl (decide (m = n))) H := by
  unfold rEq
  rw [show scal (V.bl m) (V.bl n) = true from rfl]
  cases m <;> cases n <;> simp
theorem x_neB {m n : Bool} : rNe (.bl m) (.bl n) H Q ↔ Q (.bl (!decide (m = n))) H := by
  unfold rNe
  rw [show scal (V.bl m) (V.bl n) = true from rfl]
  cases m <;> cases n <;> simp
theorem x_eqS {m n : Str} : rEq (.str m) (.str n) H Q ↔ Q (.bl (decide (m = n))) H := by
  unfold rEq
  rw [show scal (V.str m) (V.str n) = true from rfl]
  by_cases e : m = n
  · subst e; simp
  · simp [e]
theorem x_neS {m n : Str} : rNe (.str m) (.str n) H Q ↔ Q (.bl (!decide (m = n))) H := by
  unfold rNe
  rw [show scal (V.str m) (V.str n) = true from rfl]
  by_cases e : m = n
  · subst e; simp
  · simp [e]
theorem allL {p : Addr} {bs : List Bool} (h : SqL K H p (bs.map V.bl)) (q : Q (.bl (bs.all id)) H) : rAll K [.ref p] H Q := ⟨p, bs, rfl, h, q⟩
theorem anyL {p : Addr} {bs : List Bool} (h : SqL K H p (bs.map V.bl)) (q : Q (.bl (bs.any id)) H) : rAny K [.ref p] H Q := ⟨p, bs, rfl, h, q⟩
theorem lenL {p : Addr} {xs : List V} (h : SqL K H p xs) (q : Q (.int (xs.length : Nat)) H) : rLen K [.ref p] H Q := ⟨p, xs, rfl, .inl h, q⟩
theorem lenT {p : Addr} {xs : List V} (h : SqT K H p xs) (q : Q (.int (xs.length : Nat)) H) : rLen K [.ref p] H Q := ⟨p, xs, rfl, .inr h, q⟩
theorem x_izipA {a : TA} {R : It → Hp → Prop} : iZipA K a σ H R = a σ H (fun vs H1 => ∃ a b xs ys, vs = [.ref a, .ref b] ∧ ((SqL K H1 a xs ∧ SqL K H1 b ys ∧ R (Itz K a b) H1) ∨ (SqT K H1 a xs ∧ SqT K H1 b ys ∧ R (ItzT K a b) H1))) := rfl
theorem eq_same {v : V} (h : scal v v = true) (q : Q (.bl true) H) : rEq v v H Q := ⟨h, by rw [decide_eq_true rfl]; exact q⟩
theorem g_three {i j l : Nat} {T : Addr} {x y z : V} {QG : L2.St → Hp → Prop} (h : H T = some (.tup [x, y, z])) (q : QG (((σ.set i (some x)).set j (some y)).set l (some z)) H) : gTup K 3 (gCons (gName i) (gCons (gName j) (gCons (gName l) gNil))) (.ref T) σ H QG :=
  ⟨T, [x, y, z], rfl, .inl (.inl h), rfl, x, [y, z], rfl, y, [z], rfl, z, [], rfl, rfl, q⟩
theorem lc_zip {a b : Addr} {xs ys : List V} {j k : Nat} (keep : Nat → Bool) (f : Nat → V) (hx : SqL K H1 a xs) (hy : SqL K H1 b ys) (he0 : xs.length = ys.length) (hD : H1 Dl = none) (hn : xs.length ≤ 100000)
    (hw : ∀ u v : V, wipe (((wipe σ vs).set j (some u)).set k (some v)) vs = wipe σ vs)
    (ht : ∀ i x y, xs[i]? = some x → ys[i]? = some y → Evl.EvT tt (((wipe σ vs).set j (some x)).set k (some y)) H1 (keep i))
    (he : ∀ i x y, xs[i]? = some x → ys[i]? = some y → keep i = true → Evl.Ev te (((wipe σ vs).set j (some x)).set k (some y)) H1 (f i))
    (hd : ∀ H', Evl.Ex H1 H' → H' Dl = some (.lst (kept xs.length keep f)) → Q (.ref Dl) H') : LcG (Itz K a b) (gTup K 2 (gCons (gName j) (gCons (gName k) gNil))) tt te vs σ Dl H1 Q := by
  have gx : ∀ i, i < xs.length → xs[i]? = some (xs.getD i .non) := fun i hi => by rw [List.getD_eq_getElem?_getD, List.getElem?_eq_getElem hi]; rfl
  have gy : ∀ i, i < xs.length → ys[i]? = some (ys.getD i .non) := fun i hi => by rw [List.getD_eq_getElem?_getD, List.getElem?_eq_getElem (by omega)]; rfl
  refine lc_pure xs.length (fun i => ((wipe σ vs).set j (some (xs.getD i .non))).set k (some (ys.getD i .non))) keep f hD hn (fun H' e => ⟨xs, ys, Evl.ex_l e hx, Evl.ex_l e hy, .inl (Nat.le_refl _)⟩)
    (fun i H' hi e => ⟨xs, ys, _, _, Evl.ex_l e hx, Evl.ex_l e hy, gx i hi, gy i hi⟩)
    (fun i H' x H'' QG hi e y q => ?_) (fun i hi => hw _ _) (fun i hi => ht i _ _ (gx i hi) (gy i hi)) (fun i hi => he i _ _ (gx i hi) (gy i hi)) hd
  obtain ⟨T, u, v, rfl, hT, rfl, hf, hf2⟩ := y
  have hu := hf xs (Evl.ex_l e hx)
  have hv := hf2 ys (Evl.ex_l e hy)
  have e1 : xs.getD i .non = u := by rw [List.getD_eq_getElem?_getD, hu]; rfl
  have e2 : ys.getD i .non = v := by rw [List.getD_eq_getElem?_getD, hv]; rfl
  refine g_two upd_same ?_
  have q2 := q (Evl.Ex.new hT)
  rw [e1, e2] at q2
  exact q2
theorem lc_zipT {a b : Addr} {xs ys : List V} {j k : Nat} (keep : Nat → Bool) (f : Nat → V) (hx : SqT K H1 a xs) (hy : SqT K H1 b ys) (he0 : xs.length = ys.length) (hD : H1 Dl = none) (hn : xs.length ≤ 100000)
    (hw : ∀ u v : V, wipe (((wipe σ vs).set j (some u)).set k (some v)) vs = wipe σ vs)
    (ht : ∀ i x y, xs[i]? = some x → ys[i]? = some y → Evl.EvT tt (((wipe σ vs).set j (some x)).set k (some y)) H1 (keep i))
    (he : ∀ i x y, xs[i]? = some x → ys[i]? = some y → keep i = true → Evl.Ev te (((wipe σ vs).set j (some x)).set k (some y)) H1 (f i))
    (hd : ∀ H', Evl.Ex H1 H' → H' Dl = some (.lst (kept xs.length keep f)) → Q (.ref Dl) H') : LcG (ItzT K a b) (gTup K 2 (gCons (gName j) (gCons (gName k) gNil))) tt te vs σ Dl H1 Q := by
  have gx : ∀ i, i < xs.length → xs[i]? = some (xs.getD i .non) := fun i hi => by rw [List.getD_eq_getElem?_getD, List.getElem?_eq_getElem hi]; rfl
  have gy : ∀ i, i < xs.length → ys[i]? = some (ys.getD i .non) := fun i hi => by rw [List.getD_eq_getElem?_getD, List.getElem?_eq_getElem (by omega)]; rfl
  refine lc_pure xs.length (fun i => ((wipe σ vs).set j (some (xs.getD i .non))).set k (some (ys.getD i .non))) keep f hD hn (fun H' e => ⟨xs, ys, Evl.ex_t e hx, Evl.ex_t e hy, .inl (Nat.le_refl _)⟩)
    (fun i H' hi e => ⟨xs, ys, _, _, Evl.ex_t e hx, Evl.ex_t e hy, gx i hi, gy i hi⟩)
    (fun i H' x H'' QG hi e y q => ?_) (fun i hi => hw _ _) (fun i hi => ht i _ _ (gx i hi) (gy i hi)) (fun i hi => he i _ _ (gx i hi) (gy i hi)) hd
  obtain ⟨T, u, v, rfl, hT, rfl, hf, hf2⟩ := y
  have hu := hf xs (Evl.ex_t e hx)
  have hv := hf2 ys (Evl.ex_t e hy)
  have e1 : xs.getD i .non = u := by rw [List.getD_eq_getElem?_getD, hu]; rfl
  have e2 : ys.getD i .non = v := by rw [List.getD_eq_getElem?_getD, hv]; rfl
  refine g_two upd_same ?_
  have q2 := q (Evl.Ex.new hT)
  rw [e1, e2] at q2
  exact q2
theorem all_true (n : Nat) : ((List.replicate n true).all id) = true := by
  induction n with
  | zero => rfl
  | succ n ih => rw [List.replicate_succ, List.all_cons, ih]; rfl
theorem kept_const (n : Nat) (v : V) : kept n (fun _ => true) (fun _ => v) = List.replicate n v := by
  rw [kept_all]
  apply List.ext_getElem?
  intro j
  rw [List.getElem?_map]
  by_cases h : j < n
  · rw [List.getElem?_range h, List.getElem?_replicate, if_pos h]
    rfl
  · rw [List.getElem?_eq_none (by rw [List.length_range]; omega), List.getElem?_eq_none (by rw [List.length_replicate]; omega)]
    rfl
end
end BC

set_option Elab.async false
set_option linter.all false
set_option maxRecDepth 100000
set_option maxHeartbeats 4000000
/-! repr of lists wants to know that no repr is under way around: promises that hold where nothing is guarded -/
namespace BC
open PySem PySem.Spec PyProof.Rows L2 Evl
/-- nothing is guarded around -/
def G0 (A : Around) : Prop := A.guards = some []
theorem G0.deeper {A : Around} (g : G0 A) (env : Env) : G0 (A.deeper env) := g
/-- FnOk where nothing is guarded around -/
structure FnG (P : Program) (w : World) (K : PySem.W.Frag) (mg : Str → Option Value) (base : Heap) (CX : CXT) (k : Nat) (f : Addr) (fd : FuncData) (ps : List Str) (sp : Sp) : Prop where
  size : ∀ vs H Q E, sp vs H Q E → vs.length = ps.length
  go : ∀ (A : Around) (outer : List Env) (s : Shared) (H : Hp) (args : Args) (us : List Value) (vs : List V) (Q : VK) (E : XK), G0 A → Room k A → Env0 P w K mg base A outer s H →
    BindsTo s fd args (ps.zip us) → Vals vs us → sp vs H Q E → codeAny (model P w) A (.call (.ref f) args) (CR CX outer P w H s Q E) s
section
variable {P : Program} {w : World} {K : PySem.W.Frag} {mg : Str → Option Value} {base : Heap} {CX : CXT} {k : Nat} {f : Addr} {fd : FuncData} {ps : List Str} {sp : Sp}
theorem FnG.of (F : FnOk P w K mg base CX k f fd ps sp) : FnG P w K mg base CX k f fd ps sp :=
  ⟨F.len, fun A outer s H args us vs Q E _ => F.run A outer s H args us vs Q E⟩
theorem FnG.up (F : FnG P w K mg base CX k f fd ps sp) {j : Nat} (h : k ≤ j) : FnG P w K mg base CX j f fd ps sp :=
  ⟨F.size, fun A outer s H args us vs Q E g hr => F.go A outer s H args us vs Q E g (hr.mono h)⟩
/-- the rule for a def -/
theorem fun_okG {x qual : Str} {st : Stmt} {N : List Str} (F : Fun K x qual st f fd) (S : FnScope N ps (defScope st)) (size : ∀ vs H Q E, sp vs H Q E → vs.length = ps.length)
    (body : ∀ (cdv : Value) (A : Around) (outer : List Env) (s : Shared) (H : Hp) (vs : List V) (Q : VK) (E : XK), G0 (A.deeper (envOfC qual (defScope st) s.heap.objs.size f cdv)) → Room k (A.deeper (envOfC qual (defScope st) s.heap.objs.size f cdv)) → sp vs H Q E →
      ∃ t, PSs (cxOf CX P w K mg base N qual (defScope st) f cdv A outer s H E) (defBody st) t ∧ t { nx := fun _ H' => Q .non H', rt := Q } (start N vs) H) : FnG P w K mg base CX (k + 1) f fd ps sp := by
  obtain ⟨oc, od, kV, doc, pm, an, cdv, ct, osl, rfl, lk, hcd⟩ := F.ex
  refine ⟨size, fun A outer s H args us vs Q E g room env bind vals prom => ?_⟩
  have inK : K.In s.heap := env.mod.kin.keeps fun b o q => (env.bs b o q).1
  have loose : s.heap.NoLimit := env.mod.nolimit.keeps fun b o q => (env.bs b o q).1
  have kinds : ∀ z ∈ ps.zip us, (defScope st).names.lookup z.1 = some .local ∨ ((defScope st).names.lookup z.1 = some .cell ∧ ((cellsFrom (s.heap.objs.size + 1) (defScope st).names []).lookup z.1).isSome = true) := by
    rintro ⟨n, v⟩ hz
    have hn := (List.of_mem_zip hz).1
    rcases S.par n hn with h | h
    · exact Or.inl h
    · exact Or.inr ⟨h, PySem.W.cellsFrom_some _ _ _ (Or.inl h)⟩
  refine codeAny_call_function room.depth (inK _ _ lk) rfl S.co S.gen rfl (PySem.W.codeRec_of inK hcd) (bind _ _ _ _ ?_)
  refine wpAny_newFunctionEnv_cells S.kind kinds fun env' e1 s1 into => ?_
  subst e1
  refine ⟨loose.keeps into.toInCall.keep, codeAny_func ?_⟩
  obtain ⟨t, deriv, read⟩ := body cdv A outer s H vs Q E (g.deeper _) (room.deeper _) prom
  have I := inv_start (CX := CX) (E := E) S room.hd env (size _ _ _ _ prom) vals into
  refine wpAny_mono (deriv.run [] s1 (start N vs) H _ I read) (fun flow s' ends => ?_) fun _ _ q => q
  have done : ∀ {σ2 : L2.St} {H2 : Hp} {v : V} {u : Value}, Inv (cxOf CX P w K mg base N qual (defScope st) f cdv A outer s H E) [] σ2 H2 s' → RelV v u → Q v H2 → CE outer P w H s Q u s' := by
    intro σ2 H2 v u J rel q
    exact ⟨v, H2, J.os, J.bare, J.base, J.hok, rel, q⟩
  match flow, ends with
  | .ret u, ends =>
    obtain ⟨v, σ2, H2, J, rel, q⟩ := ends
    exact done J rel q
  | .next, ends =>
    obtain ⟨σ2, H2, J, q⟩ := ends
    exact done (v := V.non) (u := Value.none) J rfl q
  | .brk, ends =>
    obtain ⟨_, _, _, q⟩ := ends
    exact q.elim
  | .cont, ends =>
    obtain ⟨_, _, _, q⟩ := ends
    exact q.elim
end
section
variable {X : Cx} {CX : CXT} {k : Nat} {f : Addr} {fd : FuncData} {ps : List Str} {sp : Sp} {dvs : List V} {ds : List Value} {E : XK} {x : Str} {p pos : Pos} {e : Expr} {es : List Expr} {t : TA}
theorem call_G {pins : List (Addr × Obj)} {σ : L2.St} {H : Hp} {s : Shared} {Q : VK} {us : List Value} {vs : List V} (F : FnG X.prog X.w X.K X.mg X.base CX k f fd ps sp) (g : G0 X.A) (hr : Room k X.A) (hb : Binds X.K fd ps ds) (hd : Vals dvs ds)
    (hx : Passes CX X E) (I : Inv X pins σ H s) (r : Vals vs us) (h : sp (vs ++ dvs) H Q E) : wpAny (model X.prog X.w) X.A (call (.ref f) us) (EP X pins σ Q) X.xe s := by
  have both : Vals (vs ++ dvs) (us ++ ds) := r.append hd
  have many : (us ++ ds).length = ps.length := both.length.symm.trans (F.size _ _ _ _ h)
  have run := F.go X.A X.stack s H ⟨us, []⟩ (us ++ ds) (vs ++ dvs) Q E g hr I.env0 (hb s us I.kIn many) both h
  refine wpAny_call (codeAny_mono run fun res s' q => ?_)
  match res, q with
  | .error err, q => exact hx pins σ H s err s' I q
  | .ok (.ret u), q => exact I.after q
theorem pe_callG (F : FnG X.prog X.w X.K X.mg X.base CX k f fd ps sp) (g : G0 X.A) (hr : Room k X.A) (hg : Gl X x) (hm : X.mg x = some (.ref f)) (hk : PySem.W.keepIn X.K (.ref f) = true) (hb : Binds X.K fd ps ds) (hd : Vals dvs ds) (hx : Passes CX X E)
    (ha : PA X (e :: es) t) (hdb : (x == ("__debug__" : Str)) = false := by decide) (he : starEach (e :: es) X.env = (false, eval e X.env) :: starEach es X.env := by rfl) (hpl : (backTo pos (starEach es X.env)).any (·.1) = false := by rfl) :
    PE X (.Call (.Name x p) (e :: es) [] pos) (tCall sp dvs E t) := by
  constructor
  intro pins s σ H Q I h
  have args := ha.run pos pins s σ H _ I h
  refine wpAny_Call_Name_kw (ld_glob I hg hm (PySem.W.callWith_K (h₀ := X.base) I.ok.mod.kin hk (thn args ?_) he hpl) hdb)
  rintro us s1 ⟨vs, H1, I1, r, q⟩
  exact ⟨I1.kIn, call_G F g hr hb hd hx I1 r q⟩
end

/-! ### the law's own call, for a promise of this kind -/
section
variable {P : Program} {w : World} {K : PySem.W.Frag} {mg mb : Str → Option Value} {k : Nat} {fa a : Addr} {fd : FuncData} {x : Str} {sp : Sp} {s : Shared} {vs : List Value} {ns : List Int}
/-- the abstract heap at the entry: the script alone, locked; or nothing, where the script is the module's own -/
def entryH (a : Addr) (vs : List Value) (ns : List Int) (own : Bool) : Hp := fun b => if own = false ∧ b = a then some (.frz { cls := .type "list", data := .seq vs.toArray } (.lst (ns.map V.int))) else none
theorem entry_other {own : Bool} {b : Addr} (h : b ≠ a) : entryH a vs ns own b = none := if_neg fun z => h z.2
theorem entry_own {b : Addr} : entryH a vs ns true b = none := if_neg fun z => nomatch z.1
theorem entry_at : entryH a vs ns false a = some (.frz { cls := .type "list", data := .seq vs.toArray } (.lst (ns.map V.int))) := if_pos ⟨rfl, rfl⟩
theorem entry_case {own : Bool} {b : Addr} {o : HO} (h : entryH a vs ns own b = some o) : own = false ∧ b = a ∧ o = .frz { cls := .type "list", data := .seq vs.toArray } (.lst (ns.map V.int)) := by
  unfold entryH at h
  by_cases q : own = false ∧ b = a
  · rw [if_pos q] at h
    exact ⟨q.1, q.2, (Option.some.inj h).symm⟩
  · rw [if_neg q] at h
    cases h
theorem law_goG (hK : K.In s.heap) (hns : s.heap.Ns mainGlobals mg) (hb : s.heap.Ns builtinsNs mb) (hbb : ∀ x : Str, x ≠ "__name__" → mb x = bootBuiltins x) (hlim : s.heap.NoLimit) (hg : s.gens = #[])
    (ha : s.heap.get? a = some { cls := .type "list", data := .seq vs.toArray }) (hi : IntsAre vs ns) (hl : ns.length ≤ sizeLine) (hr : Room k callerA)
    (F : ∀ base : Heap, K.In base → base.Ns mainGlobals mg → FnG P w K mg base CX0 k fa fd [x] sp) (bind : ∀ (s : Shared) (u : Value), BindsTo s fd ⟨[u], []⟩ [(x, u)])
    (prom : ∀ H : Hp, SqL K H a (ns.map V.int) → sp [.ref a] H (fun v _ => v = .bl true) fun _ _ _ => False) :
    codeAny (model P w) callerA (.call (.ref fa) ⟨[.ref a], []⟩) (fun r s' => r = .ok (.ret (.bool true)) ∧ OldK s.heap s'.heap ∧ s'.os = s.os ∧ AllBare s'.gens) s := by
  have rv := vals_ints hi
  have many := hi.length
  obtain ⟨own, hown⟩ : ∃ own : Bool, own = (K.lookup a).isSome := ⟨_, rfl⟩
  let H : Hp := entryH a vs ns own
  have reads : SqL K H a (ns.map V.int) := by
    cases q : K.lookup a with
    | none =>
      have e : own = false := by rw [hown, q]; rfl
      exact Or.inl (Or.inr ⟨_, by show entryH a vs ns own a = _; rw [e]; exact entry_at⟩)
    | some o =>
      have z := hK a o q
      rw [ha] at z
      cases z
      refine Or.inr ⟨_, vs.toArray, _, q, rfl, rfl, rfl, ?_, ?_⟩
      · rw [List.size_toArray, many]
        exact hl
      · exact rv
  have held : HOk P w H s.heap := fun b o q => by
    obtain ⟨_, rfl, rfl⟩ := entry_case q
    exact ⟨ha, by rw [List.length_map]; exact hl, vs, _, rv, ha⟩
  have spare : ∀ {b : Addr} {o : Obj}, s.heap.get? b = some o → (∀ u n, o.data ≠ .seq u n) → H b = none := fun {b o} e d => by
    cases q : H b with
    | none => rfl
    | some u =>
      obtain ⟨_, rfl, _⟩ := entry_case q
      rw [ha] at e
      cases e
      exact absurd rfl (d _ _)
  have nsT : ∀ {b : Addr} {m : Str → Option Value}, s.heap.Ns b m → (hidT s.heap H).Ns b m := by
    rintro b m ⟨o, es, ep, e, d, r⟩
    exact ⟨o, es, ep, hidT_get e (spare e fun u n z => by rw [d] at z; cases z), d, r⟩
  have kT : K.In (hidT s.heap H) := fun b o e => hidT_get (hK b o e) (by
    cases q : H b with
    | none => rfl
    | some u =>
      obtain ⟨z, rfl, _⟩ := entry_case q
      rw [hown, e] at z
      cases z)
  have module : Mod K mg (hidT s.heap H) := ⟨kT, nsT hns, ⟨mb, nsT hb, hbb⟩, by obtain ⟨mc, h1, h2⟩ := hlim; exact ⟨mc, nsT h1, h2⟩⟩
  have entry : Env0 P w K mg (hidT s.heap H) callerA [] s H :=
    ⟨rfl, module, fun b o e => of_hidT e, Nat.le_of_eq (hidT_size _ _), trivial, fun b z => (List.not_mem_nil z).elim, held, .of_eq hg⟩
  have ran := (F _ kT (nsT hns)).go callerA [] s H ⟨[.ref a], []⟩ [.ref a] [.ref a] _ _ rfl hr entry (bind s (.ref a)) (.cons rfl .nil) (prom H reads)
  refine codeAny_mono ran fun r s' q => ?_
  match r, q with
  | .ok (.ret u), q =>
    obtain ⟨v, H', os, bare, un, held', rel, fin⟩ := q
    obtain rfl : v = .bl true := fin
    obtain rfl : u = Value.bool true := rel
    refine ⟨rfl, OldK.of_keep fun b o e => ?_, os, bare⟩
    cases q : H b with
    | none => exact un.keep b o e q (fun z => (List.not_mem_nil z).elim) List.not_mem_nil
    | some u =>
      obtain ⟨_, rfl, rfl⟩ := entry_case q
      have z := (held' _ _ (un.frzs _ _ _ q)).1
      rw [ha] at e
      cases e
      exact z
theorem walk_G {l : PySem.W.OpenLaw} {n k : Nat} {q : Program} {loose : List Str} {XP : (Str → Option Value) → Heap → Prop} {YP : World → Heap → Prop} {d : DefRec} {K : Params → PySem.W.Frag} {sp : World → Sp} {x : Str}
    (hn : l.most = some n) (hn2 : n ≤ sizeLine) (hdf : d.params.defaults = []) (hr : Room k callerA) (hY : ∀ (w : World) (h : Heap), YP w h → (K w.params).In h)
    (F : ∀ (w : World) (mg : Str → Option Value) (fa : Addr) (h : Heap), (K w.params).In h → h.Ns mainGlobals mg → mg d.name = some (.ref fa) →
      ∃ fd : FuncData, (∀ (s : Shared) (u : Value), BindsTo s fd ⟨[u], []⟩ [(x, u)]) ∧ ∀ base : Heap, (K w.params).In base → base.Ns mainGlobals mg → FnG l.prog w (K w.params) mg base CX0 k fa fd [x] (sp w))
    (prom : ∀ (w : World) (H : Hp) (a : Addr) (ns : List Int), ns.length ≤ n → SqL (K w.params) H a (ns.map V.int) → sp w [.ref a] H (fun v _ => v = .bl true) fun _ _ _ => False) :
    PySem.W.WalkO q loose XP YP l.row.toRowW d [] (fun f vs => PySem.call f vs) := by
  refine Att.attach_call hn hdf ?_
  intro w s0 s1 mg mb fa o pm cd doc a vs ns G Y _ hd hcd hmg hobj hints hlen hg
  have inK := hY w _ Y
  obtain ⟨fd, bind, keep⟩ := F w mg fa _ inK G.T.g hmg
  exact law_goG inK G.T.g G.T.b G.T.builtins G.T.nolimit hg hobj hints (Nat.le_trans hlen hn2) hr keep bind fun H hS => prom w H a ns hlen hS
end
end BC

set_option Elab.async false
set_option linter.all false
set_option maxRecDepth 100000
set_option maxHeartbeats 4000000
/-! repr, keywords, more readings -/
namespace BC
open PySem PySem.Spec PyProof.Rows L2 Evl
section
variable {X : Cx} {K : PySem.W.Frag} {σ : L2.St} {H : Hp} {Q : VK}
/-- repr of lists, tuples and what lies in them -/
def rRepr (K : PySem.W.Frag) : List V → Hp → VK → Prop := fun xs H Q => ∃ a d, xs = [.ref a] ∧ Dp K H (.ref a) d ∧ d.showable = true ∧ d.depth ≤ 60 ∧ d.hasDict = false ∧ d.shown.length ≤ sizeLine ∧ Q (.str d.shown) H
theorem k_repr (hK : X.K = K) (g : G0 X.A) (hu : X.A.units + 64 < cLine) : CallR X (.builtin "repr") (rRepr K) := by
  subst hK
  intro pins s σ H xs us Q I r h
  obtain ⟨a, d, rfl, hd, h1, h2, h3, h4, q⟩ := h
  obtain ⟨u, rfl, rfl⟩ := vals1 r
  obtain ⟨as, rd⟩ := Dp.reads I d (.ref a) (.ref a) hd rfl
  exact repr_of_reads' rd h1 (PyData.noDict_hsm h3) g (by omega) (fun _ _ e => e) (fun h' u tk hk => ⟨.str _, H, I.kept hk, ⟨_, rfl⟩, q⟩) h4
def rIsB : R2 := fun x y H Q => ∃ a b, x = .bl a ∧ y = .bl b ∧ Q (.bl (decide (a = b))) H
def rIsNB : R2 := fun x y H Q => ∃ a b, x = .bl a ∧ y = .bl b ∧ Q (.bl (!decide (a = b))) H
theorem op_isB : OpR X (compareOp .Is) rIsB := op_is_bl
theorem op_isNB : OpR X (compareOp .IsNot) rIsNB := op_isnot_bl
theorem x_isB {a b : Bool} : rIsB (.bl a) (.bl b) H Q ↔ Q (.bl (decide (a = b))) H := ⟨fun ⟨i, j, e1, e2, q⟩ => by cases e1; cases e2; exact q, fun q => ⟨a, b, rfl, rfl, q⟩⟩
theorem x_isNB {a b : Bool} : rIsNB (.bl a) (.bl b) H Q ↔ Q (.bl (!decide (a = b))) H := ⟨fun ⟨i, j, e1, e2, q⟩ => by cases e1; cases e2; exact q, fun q => ⟨a, b, rfl, rfl, q⟩⟩
theorem x_lrg {te : L2.St → Hp → (Int → Int → Hp → Prop) → Prop} : tLstRg te σ H Q = te σ H fun a b H1 => RgOk a b ∧ ∀ q, H1 q = none → Q (.ref q) (upd H1 q (.lst (rgV a b))) := rfl
theorem x_rg1 {ta : TE} {R : Int → Int → Hp → Prop} : tRg1 ta σ H R = ta σ H fun x H1 => ∃ n, x = .int n ∧ R 0 n H1 := rfl
theorem x_rg2 {ta tb : TE} {R : Int → Int → Hp → Prop} : tRg2 ta tb σ H R = ta σ H fun x H1 => tb σ H1 fun y H2 => ∃ i j, x = .int i ∧ y = .int j ∧ R i j H2 := rfl
end
theorem Fx.mut {b r : Addr} {H H' : Hp} {o : HO} (f : Fx b H H') (n : H r = none) : Fx b H (upd H' r o) := fun a u na h => by rw [upd_ne (ne_of_none h n)]; exact f a u na h
theorem fx_none {b x : Addr} {H H' : Hp} (h : Fx b H H') (n : H' x = none) (nb : x ≠ b) : H x = none := by
  cases e : H x with
  | none => rfl
  | some o => rw [h _ _ nb e] at n; cases n
/-- a promise that asks for more -/
theorem weak {P : Program} {w : World} {K : PySem.W.Frag} {mg : Str → Option Value} {base : Heap} {CX : CXT} {k : Nat} {f : Addr} {fd : FuncData} {ps : List Str} {sp sp' : Sp} (F : FnOk P w K mg base CX k f fd ps sp) (h : ∀ vs H Q E, sp' vs H Q E → sp vs H Q E) : FnOk P w K mg base CX k f fd ps sp' :=
  ⟨fun vs H Q E q => F.len vs H Q E (h _ _ _ _ q), fun A outer s H args us vs Q E hr env bind vals q => F.run A outer s H args us vs Q E hr env bind vals (h _ _ _ _ q)⟩
/-! ### a cut: what stands after one statement -/
section
variable {σ : L2.St} {H : Hp} {D : Ends} {ta : TE} {s1 s2 : TS} {i : Nat}
theorem seq_asg (C : V → Hp → Prop) (h1 : ∀ R : VK, (∀ v H', C v H' → R v H') → ta σ H R) (h2 : ∀ v H', C v H' → s2 D (σ.set i (some v)) H') : tSeq (tAsg ta (gName i)) s2 D σ H := h1 _ h2
theorem seq_cut (C : L2.St → Hp → Prop) (h1 : ∀ N : L2.St → Hp → Prop, (∀ σ' H', C σ' H' → N σ' H') → s1 { D with nx := N } σ H) (h2 : ∀ σ' H', C σ' H' → s2 D σ' H') : tSeq s1 s2 D σ H := h1 _ h2
end
/-! ### keywords -/
def kg {α : Type} (d : α) (a b : Nat) (perm : List Nat) (us ws : List α) : List α := if us.length = a ∧ ws.length = b then perm.map fun i => (us ++ ws).getD i d else []
theorem vals_getD : ∀ {vs : List V} {us : List Value}, Vals vs us → ∀ i, RelV (vs.getD i .non) (us.getD i .none)
  | [], [], .nil, _ => rfl
  | _ :: _, _ :: _, .cons h _, 0 => h
  | _ :: _, _ :: _, .cons _ r, i + 1 => vals_getD r i
theorem vals_perm {vs : List V} {us : List Value} (r : Vals vs us) : ∀ p : List Nat, Vals (p.map fun i => vs.getD i .non) (p.map fun i => us.getD i .none)
  | [] => .nil
  | i :: p => .cons (vals_getD r i) (vals_perm r p)
theorem kg_rel {a b : Nat} {p : List Nat} {vs : List V} {us : List Value} {zs : List V} {ws : List Value} (r : Vals vs us) (z : Vals zs ws) : Vals (kg .non a b p vs zs) (kg .none a b p us ws) := by
  unfold kg
  rw [r.length, z.length]
  split
  · exact vals_perm (r.append z) p
  · exact .nil
theorem kg_mk {K : PySem.W.Frag} {fd : FuncData} {q : Str} {ps ks : List Str} {a b : Nat} {p : List Nat} (h : ∀ us ws : List Value, us.length = a → ws.length = b → bindArgs fd ⟨us, ks.zip ws⟩ = pure ((q :: ps).zip (p.map fun i => (us ++ ws).getD i .none))) :
    KBinds K fd (q :: ps) ks (kg .none a b p) (kg .non a b p) := by
  refine ⟨fun s us ws _ hl => ?_, kg_rel⟩
  unfold kg at hl ⊢
  split at hl
  · next c =>
    rw [if_pos c]
    exact .of_eq (h us ws c.1 c.2)
  · cases hl
theorem fun_okN {P : Program} {w : World} {K : PySem.W.Frag} {mg : Str → Option Value} {base : Heap} {CX : CXT} {k : Nat} {f : Addr} {fd : FuncData} {ps : List Str} {sp : Sp} {x qual : Str} {st : Stmt} {N : List Str} (F : Fun K x qual st f fd) (S : FnScope N ps (defScope st)) (size : ∀ vs H Q E, sp vs H Q E → vs.length = ps.length)
    (body : ∀ (cdv : Value) (A : Around) (outer : List Env) (s : Shared) (H : Hp) (vs : List V) (Q : VK) (E : XK), G0 (A.deeper (envOfC qual (defScope st) s.heap.objs.size f cdv)) → Room k (A.deeper (envOfC qual (defScope st) s.heap.objs.size f cdv)) → sp vs H Q E →
      ∃ t, PSs (cxOf CX P w K mg base N qual (defScope st) f cdv A outer s H E).nox (defBody st) t ∧ t { nx := fun _ H' => Q .non H', rt := Q } (start N vs) H) : FnG P w K mg base CX (k + 1) f fd ps sp :=
  fun_okG F S size fun cdv A outer s H vs Q E hG hr h => let ⟨t, d, q⟩ := body cdv A outer s H vs Q E hG hr h; ⟨t, d.nox, q⟩
theorem Fun.kb {K : PySem.W.Frag} {x qual q : Str} {st : Stmt} {f : Addr} {fd : FuncData} {ps ks : List Str} {a b : Nat} {p : List Nat} (F : Fun K x qual st f fd)
    (h : ∀ (kV doc pm : Value) (an : Option Addr) (cdv ct : Value) (us ws : List Value), us.length = a → ws.length = b → bindArgs (PySem.W.fnOf x qual (defArgs st) (defBody st) (defScope st) .none kV doc pm an cdv ct) ⟨us, ks.zip ws⟩ = pure ((q :: ps).zip (p.map fun i => (us ++ ws).getD i .none))) :
    KBinds K fd (q :: ps) ks (kg .none a b p) (kg .non a b p) := by
  obtain ⟨oc, od, kV, doc, pm, an, cdv, ct, osl, rfl, lk, hcd⟩ := F.ex
  exact kg_mk (h kV doc pm an cdv ct)
section
variable {X : Cx} {CX : CXT} {k : Nat} {f : Addr} {fd : FuncData} {ps ks : List Str} {sp : Sp} {E : XK} {x : Str} {p pos : Pos} {e : Expr} {es : List Expr} {kws : List Keyword} {t tk : TA} {g : List Value → List Value → List Value} {gV : List V → List V → List V}
theorem pe_callK0 (F : FnOk X.prog X.w X.K X.mg X.base CX k f fd ps sp) (hr : Room k X.A) (hg : Gl X x) (hm : X.mg x = some (.ref f)) (hk : PySem.W.keepIn X.K (.ref f) = true) (hb : KBinds X.K fd ps ks g gV) (hx : Passes CX X E)
    (hkw : PK X kws tk) (hall : (backToKw pos (keywordEach kws X.env)).all (·.1.isSome) = true := by rfl) (hks : (backToKw pos (keywordEach kws X.env)).filterMap (·.1) = ks := by rfl)
    (hdb : (x == ("__debug__" : Str)) = false := by decide)
    (hpl : ((backTo pos (starEach [] X.env)).any (·.1) || (backToKw pos (keywordEach kws X.env)).any (·.1.isNone)) = false := by rfl) :
    PE X (.Call (.Name x p) [] kws pos) (tCallK sp gV E tNil tk) := by
  refine ⟨fun pins s σ H Q I h => ?_⟩
  refine wpAny_Call_Name_kw (ld_glob I hg hm ?_ hdb)
  refine PySem.W.callWith_KW0 (h₀ := X.base) I.ok.mod.kin hk hall (thn (hkw.run pos pins s σ H _ I h) fun ws s2 ⟨zs, H2, I2, rz, q2⟩ => ⟨I2.kIn, ?_⟩) hpl
  rw [hks]
  exact run_fnk F hr hb hx I2 .nil rz q2
theorem run_fnkG {pins : List (Addr × Obj)} {σ : L2.St} {H : Hp} {s : Shared} {Q : VK} {us ws : List Value} {vs zs : List V} (F : FnG X.prog X.w X.K X.mg X.base CX k f fd ps sp) (g0 : G0 X.A) (hr : Room k X.A) (hb : KBinds X.K fd ps ks g gV) (hx : Passes CX X E)
    (I : Inv X pins σ H s) (r : Vals vs us) (rz : Vals zs ws) (h : sp (gV vs zs) H Q E) : wpAny (model X.prog X.w) X.A (call (.ref f) us (ks.zip ws)) (EP X pins σ Q) X.xe s := by
  have r2 := hb.rel r rz
  have hl : (g us ws).length = ps.length := by rw [← r2.length]; exact F.size _ _ _ _ h
  refine wpAny_call (codeAny_mono (F.go X.A X.stack s H ⟨us, ks.zip ws⟩ (g us ws) (gV vs zs) Q E g0 hr I.env0 (hb.to s us ws I.kIn hl) r2 h) fun r s' hq => ?_)
  cases r with
  | error e => exact hx pins σ H s e s' I hq
  | ok fl =>
    cases fl with
    | ret u => exact I.after hq
    | next => exact False.elim hq
    | brk => exact False.elim hq
    | cont => exact False.elim hq
theorem pe_callKG (F : FnG X.prog X.w X.K X.mg X.base CX k f fd ps sp) (g0 : G0 X.A) (hr : Room k X.A) (hg : Gl X x) (hm : X.mg x = some (.ref f)) (hk : PySem.W.keepIn X.K (.ref f) = true) (hb : KBinds X.K fd ps ks g gV) (hx : Passes CX X E)
    (ha : PA X (e :: es) t) (hkw : PK X kws tk) (hall : (backToKw pos (keywordEach kws X.env)).all (·.1.isSome) = true := by rfl) (hks : (backToKw pos (keywordEach kws X.env)).filterMap (·.1) = ks := by rfl)
    (hdb : (x == ("__debug__" : Str)) = false := by decide) (he : starEach (e :: es) X.env = (false, eval e X.env) :: starEach es X.env := by rfl)
    (hpl : ((backTo pos (starEach (e :: es) X.env)).any (·.1) || (backToKw pos (keywordEach kws X.env)).any (·.1.isNone)) = false := by rfl) :
    PE X (.Call (.Name x p) (e :: es) kws pos) (tCallK sp gV E t tk) := by
  refine ⟨fun pins s σ H Q I h => ?_⟩
  refine wpAny_Call_Name_kw (ld_glob I hg hm ?_ hdb)
  refine PySem.W.callWith_KW (h₀ := X.base) I.ok.mod.kin hk hall (thn (ha.run pos pins s σ H _ I h) fun us s1 ⟨vs, H1, I1, r, q⟩ => ?_) hpl he
  refine thn (hkw.run pos pins s1 σ H1 _ I1 q) fun ws s2 ⟨zs, H2, I2, rz, q2⟩ => ⟨I2.kIn, ?_⟩
  rw [hks]
  exact run_fnkG F g0 hr hb hx I2 r rz q2
end
end BC

set_option Elab.async false
set_option linter.all false
set_option maxRecDepth 100000
set_option maxHeartbeats 4000000
/-! xs[:] = ys -/
namespace BC
open PySem PySem.Spec PyProof.Rows L2 Evl
theorem bounds_all (n : Nat) : sliceBounds none none none n = (((0 : Nat) : Int), ((n : Nat) : Int), 1) := by
  simp [sliceBounds]
section
variable {prog : Program} {w : World} {A : Around} {s : Shared} {E : Value → Shared → Prop}
theorem setItem_all {l b sl : Addr} {items new : Array Value} {n n2 : Nat} {vl vu : Value} {Q : Unit → Shared → Prop}
    (e : s.heap.get? l = some { cls := .type "list", data := .seq items n }) (e2 : s.heap.get? b = some { cls := .type "list", data := .seq new n2 }) (hne : l ≠ b)
    (hs : s.heap.IsSliceOf sl vl vu .none) (pl : IsPart vl none) (pu : IsPart vu none)
    (hsz : items.size + new.size ≤ sizeLine) (h : Q () { s with heap := s.heap.update l (Obj.mapSeq fun xs => xs.extract 0 0 ++ new ++ xs.extract items.size xs.size) }) :
    wpAny (model prog w) A (setItem (.ref l) (.ref sl) (.ref b)) Q E s := by
  have hl : s.heap.IsList l items := PySem.IsL.isList e
  have hb : s.heap.IsList b new := PySem.IsL.isList e2
  obtain ⟨os, hos, hcs, hds⟩ := id hs
  have hTs : s.TypeIs (.ref sl) "slice" := ⟨os, hos, hcs⟩
  have hstep : ¬ ((rawPart none == rawInt 0) = true) := Bool.false_ne_true
  have hsame : Builtin.List.listSameRef (.ref l) (.ref b) = false := by
    unfold Builtin.List.listSameRef
    exact beq_eq_false_iff_ne.mpr hne
  have hmax : (max ((0 : Nat) : Int) ((items.size : Nat) : Int)).toNat = items.size := by omega
  have hz' : ((fun xs : Array Value => xs.extract 0 0 ++ new ++ xs.extract items.size xs.size) items).size ≤ sizeLine + 1 := by
    simp only [Array.size_append, Array.size_extract]
    omega
  unfold setItem
  try with_reducible refine wpAny_holding ?_
  first | refine wpAny_bind (wpAny_pure ?_) | skip
  refine wpAny_bind (wpAny_sequenceKey hl.typeIs (by decide) ?_)
  refine wpAny_bind (wpAny_callSpecial?_slot (name := Str.ofString "__setitem__") hl.typeIs slot_list_setitem
    (wpAny_call_entry slot_list_setitem hl.typeIs entry_list_setitem ?_ (args_list_setitem _ _ _)))
  show wpAny _ _ (Builtin.List.listSubscript? (.ref sl) >>= _) _ _ s
  refine wpAny_bind ?_
  unfold Builtin.List.listSubscript?
  refine wpAny_bind (wpAny_specialOf hTs slice_no_index ?_)
  simp only [Option.isNone_none, if_true]
  refine wpAny_pure ?_
  show wpAny _ _ (typeOf (.ref sl) >>= _) _ _ s
  refine wpAny_bind (wpAny_typeOf hTs ?_)
  first
    | rw [if_neg (by decide)]
    | refine PySem.W.KFB.if_not (by decide) ?_
  rw [listSliceParts_eq]
  refine wpAny_bind (wpAny_bind (wpAny_field hos hds (x := .none) rfl (wpAny_bind (wpAny_listPart .none ?_))))
  rw [if_neg hstep]
  refine wpAny_bind (wpAny_field hos hds (x := vl) rfl (wpAny_bind (wpAny_listPart pl ?_)))
  refine wpAny_bind (wpAny_field hos hds (x := vu) rfl (wpAny_bind (wpAny_listPart pu (wpAny_pure ?_))))
  first
    | simp only [hsame, Bool.false_eq_true, if_false]
    | refine PySem.W.KFB.if_not hsame ?_
    | (dsimp only
       rw [if_neg (by rw [hsame]; exact Bool.false_ne_true)])
  refine wpAny_bind (m := Builtin.List.listAllItems (.ref b) "must assign iterable to extended slice") ?_
  unfold Builtin.List.listAllItems
  refine wpAny_bind (wpAny_typeOf hb.typeIs ?_)
  first
    | refine PySem.W.KFB.if_so (by decide) ?_
    | rw [if_pos (by decide)]
    | simp only [beq_self_eq_true, Bool.true_or, if_true]
  unfold Builtin.List.listItems
  refine wpAny_bind (wpAny_seqItems e2 rfl (wpAny_pure ?_))
  refine wpAny_bind (wpAny_bind (wpAny_seqItems e rfl (wpAny_pure ?_)))
  refine wpAny_bind (wpAny_of_eq ((sliceIndices_raw none none none items.size (by simp)).trans (congrArg (pure : Int × Int × Int → Sem (Int × Int × Int)) (bounds_all items.size))) ?_)
  show wpAny _ _ (if ((1 : Int) == 1) = true then _ else _) _ _ s
  rw [if_pos (by decide)]
  refine wpAny_bind (wpAny_rule ?_)
  first
    | simp only [notLongL hsz, Bool.false_eq_true, if_false]
    | refine PySem.W.KFB.if_not (notLongL hsz) ?_
  first | refine wpAny_bind (wpAny_pure ?_) | skip
  show wpAny _ _ (updateSeq l (fun xs => xs.extract 0 ((0 : Nat) : Int).toNat ++ new ++ xs.extract (max ((0 : Nat) : Int) ((items.size : Nat) : Int)).toNat xs.size) >>= _) _ _ s
  rw [hmax, Int.toNat_natCast]
  refine wpAny_bind (wpAny_updateSeq (hz := Nat.le_trans (Nat.le_add_right _ _) hsz) (_hz' := hz') e rfl ?_)
  refine wpAny_bind (wpAny_letGo ?_)
  first
    | exact wpAny_bind (wpAny_pure (wpAny_pure ⟨.none, rfl, wpAny_pure h⟩))
    | exact wpAny_pure ⟨.none, rfl, wpAny_pure h⟩
end
section
variable {X : Cx} {o e : Expr} {to : TE} {p2 pos : Pos}
/-- o[:] = v, both lists -/
def gAll (to : TE) : TG := fun v σ H QG => to σ H fun x H1 => ∃ a b xs ys, x = .ref a ∧ v = .ref b ∧ a ≠ b ∧ H1 a = some (.lst xs) ∧ H1 b = some (.lst ys) ∧ xs.length + ys.length ≤ sizeLine ∧ QG σ (upd H1 a (.lst ys))
theorem set_all {pins : List (Addr × Obj)} {s : Shared} {σ : L2.St} {H : Hp} {l b sl : Addr} {xs ys : List V} {vl vu : Value} {Q : Unit → Shared → Prop} (I : Inv X pins σ H s)
    (hH : H l = some (.lst xs)) (hB : H b = some (.lst ys)) (hne : l ≠ b) (hs : s.heap.IsSliceOf sl vl vu .none) (pl : IsPart vl none) (pu : IsPart vu none)
    (hz : xs.length + ys.length ≤ sizeLine) (h : ∀ s', Inv X pins σ (upd H l (.lst ys)) s' → Q () s') :
    wpAny (model X.prog X.w) X.A (setItem (.ref l) (.ref sl) (.ref b)) Q X.xe s := by
  obtain ⟨z, its, n, r, hl, e⟩ := I.lstM hH
  obtain ⟨z2, its2, n2, r2, hl2, e2⟩ := I.lstM hB
  refine setItem_all e e2 hne hs pl pu (by rw [List.size_toArray, List.size_toArray]; omega) (h _ ?_)
  refine I.lset (its' := its2) (t' := s.toks) hH e ?_ r2 (by omega)
  simp
theorem pg_all (ho : PE X o to)
    (ha0 : ∀ v, assign (.Subscript o (.Slice none none none p2) pos) X.env v = (do
      let ov ← holding [v] (eval o X.env)
      let iv ← holding [v, ov] (eval (.Slice none none none p2) X.env)
      standAt pos
      holding [v, ov, iv] (setItem ov iv v)
      release [iv, v, ov] []) := by intro _; rfl) : PG X (.Subscript o (.Slice none none none p2) pos) (gAll to) := by
  refine ⟨fun pins s σ H v u Q I r h => ?_⟩
  rw [ha0]
  refine wpAny_bind (wpAny_holding (thn (ho.run pins s σ H _ I h) fun ov s1 ⟨x, H1, I1, r1, q1⟩ => ?_))
  obtain ⟨a, b, xs, ys, rfl, rfl, hne, ha, hb, hz, q⟩ := q1
  cases r1
  cases r
  refine wpAny_bind (wpAny_holding ?_)
  refine wpAny_Slice ?_
  rw [evalPart_none]
  refine wpAny_pure ?_
  refine wpAny_pure ?_
  refine wpAny_pure ?_
  have I4 : Inv X pins σ H1 { s1 with heap := s1.heap.push { cls := .type "slice", data := .fields #[.none, .none, .none] } } := I1.kept (t' := s1.toks) fun b ob q => Heap.get?_push_of_some _ q
  refine wpAny_bind (wpAny_standAt (wpAny_bind (wpAny_holding ?_)))
  refine set_all I4 ha hb hne (Heap.IsSliceOf.new ..) .none .none hz fun s' I5 => ?_
  exact wpAny_release ⟨σ, _, I5, q⟩
def rDivmod : List V → Hp → VK → Prop := fun xs H Q => ∃ i j, xs = [.int i, .int j] ∧ CDivW i j ∧ ∀ p, H p = none → Q (.ref p) (upd H p (.tup [.int (i / j), .int (i % j)]))
theorem call_dmX : CallR X (.builtin "divmod") rDivmod := by
  intro pins s σ H xs us Q I r h
  obtain ⟨i, j, rfl, hc, q⟩ := h
  obtain ⟨u, u2, rfl, ⟨t, rfl⟩, ⟨t2, rfl⟩⟩ := vals2 r
  have pos : 0 < j := hc.1
  have new := I.hok.fresh (Nat.le_refl s.heap.objs.size)
  refine divmod_int (by omega) ?_ (.inl (PyProof.noPylong_of_log2 hc.2))
  rw [Int.fdiv_eq_ediv_of_nonneg i (by omega), Int.fmod_eq_emod_of_nonneg i (by omega)]
  refine ⟨.ref s.heap.objs.size, _, ?_, rfl, q _ new⟩
  refine I.laid (fun b o e => Heap.get?_push_of_some _ e) (Nat.le_refl _) ⟨?_, [.int (i / j) s.toks, .int (i % j) (s.toks + 1)], .cons ⟨_, rfl⟩ (.cons ⟨_, rfl⟩ .nil), ?_⟩
  · exact Evl.sz_of (by simp)
  · exact ⟨_, Heap.get?_push_size s.heap rfl, rfl, 0, rfl⟩
theorem x_gall {σ : L2.St} {H : Hp} {v : V} {QG : L2.St → Hp → Prop} : gAll to v σ H QG = to σ H fun x H1 => ∃ a b xs ys, x = .ref a ∧ v = .ref b ∧ a ≠ b ∧ H1 a = some (.lst xs) ∧ H1 b = some (.lst ys) ∧ xs.length + ys.length ≤ sizeLine ∧ QG σ (upd H1 a (.lst ys)) := rfl
end
end BC

set_option Elab.async false
set_option linter.all false
set_option maxRecDepth 100000
set_option maxHeartbeats 4000000
/-! comprehensions that change what stands, or whose values are chosen as they come -/
namespace BC
open PySem PySem.Spec PyProof.Rows L2 Evl
section
variable {K : PySem.W.Frag} {σ : L2.St} {H1 : Hp} {g : TG} {te : TE} {vs : List Nat} {Dl : Addr} {Q : VK}
theorem lc_rngE {lo : Int} {n : Nat} (Pv : Nat → Hp → Prop) (h0 : Pv 0 (upd H1 Dl (.lst [])))
    (hs : ∀ i H, i < n → Pv i H → g (.int (lo + i)) (wipe σ vs) H fun σ2 H2 => wipe σ2 vs = wipe σ vs ∧ te σ2 H2 fun y H4 => ∃ acc, H4 Dl = some (.lst acc) ∧ acc.length < sizeLine ∧ Pv (i + 1) (upd H4 Dl (.lst (acc ++ [y]))))
    (hd : ∀ H, Pv n H → Q (.ref Dl) H) : LcG (Itr lo n) g tYes te vs σ Dl H1 Q := by
  refine lc_g n Pv h0 (fun H h => Nat.le_refl _) (fun i H hi h => hi) (fun i H x H' hi h y => ?_) hd
  obtain ⟨rfl, rfl⟩ := y
  have q := hs i _ hi h
  exact q
theorem lc_listE {a : Addr} {xs : List V} (Pv : Nat → Hp → Prop) (h0 : Pv 0 (upd H1 Dl (.lst []))) (hl : ∀ i H, i ≤ xs.length → Pv i H → SqL K H a xs)
    (hs : ∀ i x H, xs[i]? = some x → Pv i H → g x (wipe σ vs) H fun σ2 H2 => wipe σ2 vs = wipe σ vs ∧ te σ2 H2 fun y H4 => ∃ acc, H4 Dl = some (.lst acc) ∧ acc.length < sizeLine ∧ Pv (i + 1) (upd H4 Dl (.lst (acc ++ [y]))))
    (hd : ∀ H, Pv xs.length H → Q (.ref Dl) H) : LcG (Itl K a) g tYes te vs σ Dl H1 Q := by
  refine lc_g xs.length Pv h0 (fun H h => ⟨xs, hl _ H (Nat.le_refl _) h, Nat.le_refl _⟩) (fun i H hi h => ⟨xs, xs[i], hl i H (by omega) h, List.getElem?_eq_getElem hi⟩) (fun i H x H' hi h y => ?_) hd
  obtain ⟨rfl, hf⟩ := y
  exact hs i x _ (hf xs (hl i _ (by omega) h)) h
end
/-- a fourfold tuple unpacked -/
theorem g_four {K : PySem.W.Frag} {σ : L2.St} {H : Hp} {i j l m : Nat} {T : Addr} {x y z u : V} {QG : L2.St → Hp → Prop} (h : H T = some (.tup [x, y, z, u])) (q : QG ((((σ.set i (some x)).set j (some y)).set l (some z)).set m (some u)) H) : gTup K 4 (gCons (gName i) (gCons (gName j) (gCons (gName l) (gCons (gName m) gNil)))) (.ref T) σ H QG :=
  ⟨T, [x, y, z, u], rfl, .inl (.inl h), rfl, x, [y, z, u], rfl, y, [z, u], rfl, z, [u], rfl, u, [], rfl, rfl, q⟩
theorem revL {H : Hp} {Q : VK} {p : Addr} {xs : List V} (h : H p = some (.lst xs)) (q : Q .non (upd H p (.lst xs.reverse))) : rReverse (.ref p) [] H Q := ⟨p, xs, rfl, rfl, h, q⟩
theorem Sh.mono {n m : Nat} {d : PyData} (h : Sh n d) (e : n ≤ m) : Sh m d := by
  induction h generalizing m with
  | non n => exact .non m
  | bl n b => exact .bl m b
  | int n i => exact .int m i
  | str n x => exact .str m x
  | @lst n ds hl h ih =>
    cases m with
    | zero => omega
    | succ m => exact .lst hl fun d hd => ih d hd (by omega)
  | @tup n ds hl h ih =>
    cases m with
    | zero => omega
    | succ m => exact .tup hl fun d hd => ih d hd (by omega)
end BC

set_option Elab.async false
set_option linter.all false
set_option maxRecDepth 100000
set_option maxHeartbeats 4000000
/-! visits and their trails, lists of numbers, their repr -/
namespace BC
open PySem PySem.Spec PyProof.Rows L2 Evl
/-! ### data whose repr is short -/
structure Tm (d : PyData) : Prop where
  s : d.showable = true
  n : d.hasDict = false
  l : d.leavesShort 13 = true
theorem Tm.int {i : Int} (h : i.natAbs < 10 ^ 12) : Tm (.int i) := ⟨by
  show decide (i.natAbs.log2 < 1920) = true
  refine decide_eq_true ?_
  by_cases z : i.natAbs = 0
  · rw [z]; decide
  · exact (Nat.log2_lt z).mpr (Nat.lt_of_lt_of_le h (by decide +kernel)), rfl, by
  show decide (_ ≤ 13) = true
  exact decide_eq_true (PyData.shown_int_le h)⟩
theorem Tm.all {ds : List PyData} (h : ∀ d ∈ ds, Tm d) : PyData.showableAll ds = true ∧ PyData.hasDictAll ds = false ∧ PyData.leavesShortAll 13 ds = true := by
  induction ds with
  | nil => exact ⟨rfl, rfl, rfl⟩
  | cons d ds ih =>
    have a := h d List.mem_cons_self
    obtain ⟨b1, b2, b3⟩ := ih fun e m => h e (List.mem_cons_of_mem _ m)
    refine ⟨?_, ?_, ?_⟩
    · show (d.showable && _) = true
      rw [a.s, b1]; rfl
    · show (d.hasDict || _) = false
      rw [a.n, b2]; rfl
    · show (d.leavesShort 13 && _) = true
      rw [a.l, b3]; rfl
theorem Tm.list {ds : List PyData} (h : ∀ d ∈ ds, Tm d) : Tm (.list ds) := ⟨by simp only [PyData.showable]; exact (Tm.all h).1, by simp only [PyData.hasDict]; exact (Tm.all h).2.1, by simp only [PyData.leavesShort]; exact (Tm.all h).2.2⟩
theorem Tm.tuple {ds : List PyData} (h : ∀ d ∈ ds, Tm d) : Tm (.tuple ds) := ⟨by simp only [PyData.showable]; exact (Tm.all h).1, by simp only [PyData.hasDict]; exact (Tm.all h).2.1, by simp only [PyData.leavesShort]; exact (Tm.all h).2.2⟩
theorem wt_int {i : Int} (h : i.natAbs < 2 ^ 40) : (PyData.int i).weight ≤ 40 := by
  simp only [PyData.weight]
  split
  · omega
  · next z =>
    have z0 : i.natAbs ≠ 0 := fun e => z (by rw [Int.natAbs_eq_zero.mp e]; rfl)
    have := (Nat.log2_lt z0).mpr h
    omega
theorem wt_all {ds : List PyData} {n : Nat} (h : ∀ d ∈ ds, d.weight ≤ n) : PyData.weightAll ds ≤ (n + 1) * ds.length := by
  induction ds with
  | nil => simp [PyData.weightAll]
  | cons d ds ih =>
    have a := h d List.mem_cons_self
    have b := ih fun e m => h e (List.mem_cons_of_mem _ m)
    simp only [PyData.weightAll, List.length_cons, Nat.mul_add]
    omega
theorem dep_all {ds : List PyData} {n : Nat} (h : ∀ d ∈ ds, d.depth ≤ n) : PyData.depthAll ds ≤ n := by
  induction ds with
  | nil => simp [PyData.depthAll]
  | cons d ds ih =>
    have a := h d List.mem_cons_self
    have b := ih fun e m => h e (List.mem_cons_of_mem _ m)
    simp only [PyData.depthAll]
    omega
section
variable {K : PySem.W.Frag} {H : Hp} {Q : VK} {a : Addr}
theorem reprX {d : PyData} (h : Dp K H (.ref a) d) (t : Tm d) (dp : d.depth ≤ 60) (wt : d.weight ≤ 2 ^ 20) (q : Q (.str d.shown) H) : rRepr K [.ref a] H Q :=
  ⟨a, d, rfl, h, t.s, dp, t.n, PyData.shown_fits (B := 13) (by decide) (by decide) t.l wt, q⟩
/-- what repr of a list of numbers says -/
def shInts (ns : List Int) : Str := (PyData.list (ns.map PyData.int)).shown
theorem reprInts {ns : List Int} (h : SqL K H a (ns.map V.int)) (hs : ∀ n ∈ ns, n.natAbs < 10 ^ 12) (hl : ns.length ≤ 20000) (q : Q (.str (shInts ns)) H) : rRepr K [.ref a] H Q := by
  refine reprX (.lst h (dp_ints ns)) (.list fun d m => ?_) ?_ ?_ q
  · obtain ⟨n, hn, rfl⟩ := List.mem_map.mp m
    exact .int (hs n hn)
  · simp only [PyData.depth]
    have := dep_all (ds := ns.map PyData.int) (n := 0) fun d m => by
      obtain ⟨n, hn, rfl⟩ := List.mem_map.mp m
      simp [PyData.depth]
    omega
  · simp only [PyData.weight]
    have := wt_all (ds := ns.map PyData.int) (n := 40) fun d m => by
      obtain ⟨n, hn, rfl⟩ := List.mem_map.mp m
      exact wt_int (Nat.lt_of_lt_of_le (hs n hn) (by decide +kernel))
    rw [List.length_map] at this
    omega
/-! ### in, index, a part of a list of numbers -/
theorem flat_ints (ns : List Int) : (ns.map V.int).all flatV = true := by
  rw [List.all_eq_true]
  intro x hx
  obtain ⟨n, _, rfl⟩ := List.mem_map.mp hx
  rfl
theorem inV_ints (p : Int) (ns : List Int) : inV (.int p) (ns.map V.int) = decide (p ∈ ns) := by
  unfold inV
  rw [List.any_map]
  by_cases h : p ∈ ns
  · rw [decide_eq_true h, List.any_eq_true]
    exact ⟨p, h, by simp [eqV]⟩
  · rw [decide_eq_false h, List.any_eq_false]
    intro x hx
    have : x ≠ p := fun e => h (e ▸ hx)
    simp [eqV, this]
theorem inL {p : Int} {ns : List Int} (h : SqL K H a (ns.map V.int)) (q : Q (.bl (decide (p ∈ ns))) H) : rIn K false (.int p) (.ref a) H Q :=
  ⟨a, _, rfl, .inl h, rfl, flat_ints ns, by rw [inV_ints]; exact q⟩
theorem ninL {p : Int} {ns : List Int} (h : SqL K H a (ns.map V.int)) (q : Q (.bl (!decide (p ∈ ns))) H) : rIn K true (.int p) (.ref a) H Q :=
  ⟨a, _, rfl, .inl h, rfl, flat_ints ns, by rw [inV_ints]; exact q⟩
theorem idxL {p : Int} {ns : List Int} (h : SqL K H a (ns.map V.int)) (hp : p ∈ ns) (q : Q (.int (ns.idxOf p : Nat)) H) : rIndex K (.ref a) [.int p] H Q := by
  have hl := List.idxOf_lt_length_of_mem hp
  refine ⟨a, _, _, ns.idxOf p, .int p, rfl, rfl, h, rfl, flat_ints ns, ?_, by simp [eqV], fun m z hm hz => ?_, q⟩
  · rw [List.getElem?_map, List.getElem?_eq_getElem hl, List.getElem_idxOf hl]
    rfl
  · rw [List.getElem?_map] at hz
    have hml : m < ns.length := by omega
    rw [List.getElem?_eq_getElem hml] at hz
    cases hz
    have ne : ns[m] ≠ p := fun e => by
      have := List.not_of_lt_findIdx (p := fun x => x == p) (xs := ns) hm
      simp [e] at this
    simp [eqV, ne]
/-- numbers that are kept -/
theorem kept_ints (n : Nat) (k : Nat → Bool) (f : Nat → Int) : ∃ fr : List Int, kept n k (fun i => V.int (f i)) = fr.map V.int ∧ (∀ x ∈ fr, ∃ i, i < n ∧ k i = true ∧ x = f i) ∧ (fr = [] → ∀ i, i < n → k i = false) := by
  induction n with
  | zero => exact ⟨[], rfl, fun x h => (List.not_mem_nil h).elim, fun _ i h => by omega⟩
  | succ n ih =>
    obtain ⟨fr, h1, h2, h3⟩ := ih
    cases c : k n with
    | true =>
      refine ⟨fr ++ [f n], by rw [kept_yes c, h1, List.map_append]; rfl, fun x h => ?_, fun e => by simp at e⟩
      rcases List.mem_append.mp h with h | h
      · obtain ⟨i, a, b⟩ := h2 x h
        exact ⟨i, by omega, b⟩
      · exact ⟨n, by omega, c, List.mem_singleton.mp h⟩
    | false =>
      refine ⟨fr, by rw [kept_no c, h1], fun x h => ?_, fun e i hi => ?_⟩
      · obtain ⟨i, a, b⟩ := h2 x h
        exact ⟨i, by omega, b⟩
      · by_cases q : i = n
        · rw [q]; exact c
        · exact h3 e i (by omega)
theorem rgV_ints (a b : Int) : rgV a b = ((List.range (b - a).toNat).map fun i => a + ((i : Nat) : Int)).map V.int := by
  unfold rgV
  rw [List.map_map]
  rfl
theorem shp_ints (ns : List Int) : SeqAt.shaped (.list (ns.map PyData.int)) = true := by
  have h1 : ∀ ns : List Int, PyData.canLayAll0 (ns.map PyData.int) = true := fun ns => by
    induction ns with
    | nil => simp [PyData.canLayAll0]
    | cons n ns ih => simp [PyData.canLayAll0, PyData.canLay0, ih]
  have h2 := dep_all (ds := ns.map PyData.int) (n := 0) fun d m => by
      obtain ⟨n, hn, rfl⟩ := List.mem_map.mp m
      simp [PyData.depth]
  show (PyData.canLay0 _ && decide (PyData.depth _ ≤ 64)) = true
  rw [Bool.and_eq_true]
  refine ⟨?_, decide_eq_true ?_⟩
  · simp only [PyData.canLay0]; exact h1 ns
  · simp only [PyData.depth]; omega
theorem eqv_ints : ∀ ns ms : List Int, PyData.eqv (.list (ns.map PyData.int)) (.list (ms.map PyData.int)) = decide (ns = ms) := fun ns ms => by
  simp only [PyData.eqv]
  induction ns generalizing ms with
  | nil => cases ms <;> simp [PyData.eqvAll]
  | cons n ns ih =>
    cases ms with
    | nil => simp [PyData.eqvAll]
    | cons m ms =>
      simp only [List.map_cons, PyData.eqvAll, PyData.eqv, ih]
      by_cases h : n = m
      · subst h; simp
      · simp [h]
theorem eqInts {b : Addr} {ns ms : List Int} (h : SqL K H a (ns.map V.int)) (g : SqL K H b (ms.map V.int)) (q : Q (.bl (decide (ns = ms))) H) : rEqD K (.ref a) (.ref b) H Q :=
  ⟨_, _, .lst h (dp_ints ns), .lst g (dp_ints ms), shp_ints ns, shp_ints ms, by rw [eqv_ints]; exact q⟩
theorem neInts {b : Addr} {ns ms : List Int} (h : SqL K H a (ns.map V.int)) (g : SqL K H b (ms.map V.int)) (q : Q (.bl (!decide (ns = ms))) H) : rNeD K (.ref a) (.ref b) H Q :=
  ⟨_, _, .lst h (dp_ints ns), .lst g (dp_ints ms), shp_ints ns, shp_ints ms, by rw [eqv_ints]; exact q⟩
theorem pickI {ns : List Int} {r : Int} (h0 : 0 ≤ r) (h1 : r < ns.length) : ∃ n, n ∈ ns ∧ atI (ns.map V.int) r = some (.int n) := by
  obtain ⟨v, hv, e⟩ := pick (xs := ns.map V.int) h0 (by rw [List.length_map]; exact h1)
  obtain ⟨n, hn, rfl⟩ := List.mem_map.mp hv
  exact ⟨n, hn, e⟩
theorem cut_to (xs : List V) {i : Int} {j : Nat} (e : i = (j : Int)) (h : j ≤ xs.length) : cutV xs none (some i) = xs.take j := by
  subst e
  unfold cutV
  have e1 : HT.sIx xs.length 0 none = 0 := rfl
  rw [HT.sIx_nat, e1, List.drop_zero, Nat.sub_zero, Nat.min_eq_left h]
theorem slL {lo hi : Option Int} {xs : List V} (h : SqL K H a xs) (q : ∀ p, H p = none → Q (.ref p) (upd H p (.lst (cutV xs lo hi)))) : rSlL K (.ref a) lo hi H Q := ⟨a, xs, rfl, h, q⟩
theorem tyLL {xs : List V} (h : SqL K H a xs) : tyV K "list" (.ref a) H := Or.inl ⟨rfl, _, h⟩
end
end BC
namespace TR
/-! ### trails -/
def Pg (w : Int) (l : List Int) : Prop := ∀ x ∈ l, 0 ≤ x ∧ x < w
def vis (t : List Int) (p : Int) : List Int := if p ∈ t then t.take (t.idxOf p + 1) else t ++ [p]
def trl (row : List Int) : List Int := row.foldl vis []
/-- the lengths of the trails -/
def lens (row : List Int) : List Int := (List.range row.length).map fun i => ((trl (row.take (i + 1))).length : Int)
theorem vis_mem {t : List Int} {p x : Int} (h : x ∈ vis t p) : x ∈ t ∨ x = p := by
  unfold vis at h
  split at h
  · exact .inl (List.mem_of_mem_take h)
  · simpa using h
theorem vis_nodup {t : List Int} {p : Int} (h : t.Nodup) : (vis t p).Nodup := by
  unfold vis
  split
  · exact h.sublist (List.take_sublist _ _)
  · next n =>
    rw [List.nodup_append]
    exact ⟨h, List.nodup_cons.mpr ⟨List.not_mem_nil, List.nodup_nil⟩, fun a ha b hb e => n (by simp at hb; rw [← hb, ← e]; exact ha)⟩
theorem vis_pos (t : List Int) (p : Int) : 1 ≤ (vis t p).length := by
  unfold vis
  split
  · next h =>
    have := List.idxOf_lt_length_of_mem h
    rw [List.length_take]; omega
  · rw [List.length_append, List.length_singleton]; omega
theorem vis_le (t : List Int) (p : Int) : (vis t p).length ≤ t.length + 1 := by
  unfold vis
  split
  · rw [List.length_take]; omega
  · rw [List.length_append, List.length_singleton]; omega
theorem vis_pg {w : Int} {t : List Int} {p : Int} (h : Pg w t) (h0 : 0 ≤ p) (h1 : p < w) : Pg w (vis t p) := fun x hx => by
  rcases vis_mem hx with h2 | rfl
  · exact h x h2
  · exact ⟨h0, h1⟩
theorem trl_snoc {row : List Int} {i : Nat} {p : Int} (h : row[i]? = some p) : trl (row.take (i + 1)) = vis (trl (row.take i)) p := by
  unfold trl
  rw [List.take_add_one, h, List.foldl_append]
  rfl
theorem fold_ok {w : Int} : ∀ {row t : List Int}, Pg w row → Pg w t → t.Nodup → Pg w (row.foldl vis t) ∧ (row.foldl vis t).Nodup
  | [], _, _, h2, h3 => ⟨h2, h3⟩
  | p :: row, t, h1, h2, h3 => fold_ok (row := row) (t := vis t p) (fun x hx => h1 x (List.mem_cons_of_mem _ hx)) (vis_pg h2 (h1 p List.mem_cons_self).1 (h1 p List.mem_cons_self).2) (vis_nodup h3)
theorem Pg.take {w : Int} {l : List Int} (h : Pg w l) (n : Nat) : Pg w (l.take n) := fun x hx => h x (List.mem_of_mem_take hx)
theorem Pg.mono {w v : Int} {l : List Int} (h : Pg w l) (e : w ≤ v) : Pg v l := fun x hx => ⟨(h x hx).1, by have := (h x hx).2; omega⟩
theorem Pg.at {w : Int} {l : List Int} (h : Pg w l) {i : Nat} {p : Int} (e : l[i]? = some p) : 0 ≤ p ∧ p < w := h p (List.mem_of_getElem? e)
theorem pg_nil (w : Int) : Pg w [] := fun _ m => (List.not_mem_nil m).elim
theorem trl_pg {w : Int} {row : List Int} (h : Pg w row) : Pg w (trl row) := (fold_ok h (pg_nil w) List.nodup_nil).1
theorem trl_nodup {w : Int} {row : List Int} (h : Pg w row) : (trl row).Nodup := (fold_ok h (pg_nil w) List.nodup_nil).2
/-- so many different pages at most -/
theorem nodup_len : ∀ (n : Nat) {l : List Int}, l.Nodup → Pg n l → l.length ≤ n
  | 0, [], _, _ => Nat.le_refl _
  | 0, x :: l, _, h => by have := h x List.mem_cons_self; omega
  | n + 1, l, h1, h2 => by
    by_cases m : ((n : Nat) : Int) ∈ l
    · have h3 := nodup_len n (l := l.erase (n : Int)) (h1.erase _) (fun x hx => by
        have a := h2 x (List.mem_of_mem_erase hx)
        have b : x ≠ (n : Int) := fun e => by
          rw [h1.mem_erase_iff] at hx
          exact hx.1 e
        omega)
      have := List.length_erase_of_mem m
      omega
    · have h3 := nodup_len n h1 (fun x hx => by
        have a := h2 x hx
        have b : x ≠ (n : Int) := fun e => m (e ▸ hx)
        omega)
      omega
theorem trl_len {n : Nat} {row : List Int} (h : Pg n row) : (trl row).length ≤ n := nodup_len n (trl_nodup h) (trl_pg h)
theorem lens_len (row : List Int) : (lens row).length = row.length := by unfold lens; rw [List.length_map, List.length_range]
theorem lens_at {row : List Int} {i : Nat} (h : i < row.length) : (lens row)[i]? = some ((trl (row.take (i + 1))).length : Int) := by
  unfold lens
  rw [List.getElem?_map, List.getElem?_range h]
  rfl
end TR

set_option Elab.async false
set_option linter.all false
set_option maxRecDepth 100000
set_option maxHeartbeats 4000000
/-! defs with one keyword-only parameter that has a default -/
namespace BC
open PySem PySem.Spec PyProof.Rows L2 Evl
theorem kwd1 {K : PySem.W.Frag} {x qual : Str} {st : Stmt} {f D : Addr} {ps : List Str} {nm : Str} {v : V} {u : Value} {n : Nat} {oc : Value} {od : Option Addr} {doc pm : Value} {an : Option Addr} {cdv ct : Value} {osl : Array (Option Value)}
    (lk : K.lookup f = some ⟨oc, od, .func (PySem.W.fnOf x qual (defArgs st) (defBody st) (defScope st) .none (.ref D) doc pm an cdv ct), osl⟩) (hcd : PySem.W.codeIn K cdv qual = true) (kp : PySem.W.keepIn K (.ref f) = true)
    (hq : PySem.W.nsIn K D nm = some (some u)) (hr : RelV v u) (hn : n + 1 = ps.length)
    (h : ∀ (D : Addr) (doc pm : Value) (an : Option Addr) (cdv ct : Value) (us ks : List Value), us.length = n → ks.length = 1 →
      KwChain D ([nm].zip ks) (bindArgs (PySem.W.fnOf x qual (defArgs st) (defBody st) (defScope st) .none (.ref D) doc pm an cdv ct) ⟨us, []⟩) (ps.zip (us ++ ks))) :
    ∃ ds, Vals [v] ds ∧ Binds K (PySem.W.fnOf x qual (defArgs st) (defBody st) (defScope st) .none (.ref D) doc pm an cdv ct) ps ds := by
  have F : FunD K x qual (defArgs st) (defBody st) (defScope st) [] [(nm, v)] f (PySem.W.fnOf x qual (defArgs st) (defBody st) (defScope st) .none (.ref D) doc pm an cdv ct) :=
    ⟨⟨oc, od, _, _, doc, pm, an, cdv, ct, osl, rfl, lk, hcd, .inl ⟨rfl, rfl⟩, .inr ⟨D, rfl, fun q hm => by
      obtain rfl : q = (nm, v) := by simpa using hm
      exact ⟨u, hq, hr⟩⟩⟩, kp⟩
  have z := F.binds0 n (by simp) (by simpa using hn) h
  exact z
/-! ### the bag of draws: a list of three numbers -/
def BagAt (H : Hp) (b : Addr) (c : Nat) : Prop := ∃ x0 x1 x2 : Int, H b = some (.lst [.int x0, .int x1, .int x2]) ∧ 0 ≤ x1 ∧ x1 < 10 ^ 65 ∧ 0 ≤ x2 ∧ x2 ≤ c
theorem BagAt.ex {H H' : Hp} {b : Addr} {c : Nat} (h : BagAt H b c) (e : Ex H H') : BagAt H' b c := by
  obtain ⟨x0, x1, x2, hb, r⟩ := h
  exact ⟨x0, x1, x2, e _ _ hb, r⟩
theorem BagAt.mono {H : Hp} {b : Addr} {c d : Nat} (h : BagAt H b c) (e : c ≤ d) : BagAt H b d := by
  obtain ⟨x0, x1, x2, hb, h1, h2, h3, h4⟩ := h
  exact ⟨x0, x1, x2, hb, h1, h2, h3, by omega⟩
theorem BagAt.some {H : Hp} {b : Addr} {c : Nat} (h : BagAt H b c) : ∃ o, H b = Option.some o := by
  obtain ⟨x0, x1, x2, hb, _⟩ := h
  exact ⟨_, hb⟩
theorem BagAt.apart {H : Hp} {b z : Addr} {c : Nat} (h : BagAt H b c) (nz : H z = none) : z ≠ b := fun e => by
  obtain ⟨o, ho⟩ := h.some
  subst e
  rw [ho] at nz
  cases nz
theorem BagAt.off {H : Hp} {b z : Addr} {c : Nat} {o : HO} (h : BagAt H b c) (nz : z ≠ b) : BagAt (upd H z o) b c := by
  obtain ⟨x0, x1, x2, hb, r⟩ := h
  exact ⟨x0, x1, x2, by rw [upd_ne (Ne.symm nz)]; exact hb, r⟩
theorem BagAt.ne {H : Hp} {b z : Addr} {c : Nat} (h : BagAt H b c) (nb : H z = none) : b ≠ z := fun e => h.apart nb e.symm
/-- the greatest number of ways that is drawn from -/
def BIG : Int := 2 ^ 2000
theorem big_of {m : Int} (h : m ≤ 100000) : m ≤ BIG := Int.le_trans h (by decide +kernel)
theorem big_lt {m : Int} (h : 0 < m) (h2 : m ≤ BIG) : m.natAbs < 2 ^ 2001 := by
  have a : m.natAbs ≤ BIG.natAbs := by omega
  exact Nat.lt_of_le_of_lt a (by decide +kernel)
def spDraw : Sp := fun vs H Q _ => ∃ (b : Addr) (m : Int) (c : Nat), vs = [.ref b, .int m] ∧ 0 < m ∧ m ≤ BIG ∧ BagAt H b c ∧ c ≤ 1000000 ∧ ∀ r H', 0 ≤ r → r < m → Fx b H H' → BagAt H' b (c + 1) → Q (.int r) H'
/-! ### lists of lists of numbers, shown -/
def dLL (ls : List (List Int)) : PyData := .list (ls.map fun l => .list (l.map PyData.int))
theorem tm_ints {l : List Int} (h : ∀ x ∈ l, x.natAbs < 10 ^ 12) : Tm (.list (l.map PyData.int)) := .list fun d m => by
  obtain ⟨x, hx, rfl⟩ := List.mem_map.mp m
  exact .int (h x hx)
theorem wt_ints {l : List Int} (h : ∀ x ∈ l, x.natAbs < 10 ^ 12) : (PyData.list (l.map PyData.int)).weight ≤ 41 * l.length := by
  simp only [PyData.weight]
  have := wt_all (ds := l.map PyData.int) (n := 40) fun d m => by
      obtain ⟨n, hn, rfl⟩ := List.mem_map.mp m
      exact wt_int (Nat.lt_of_lt_of_le (h n hn) (by decide +kernel))
  rw [List.length_map] at this
  exact this
theorem dp_ll {K : PySem.W.Frag} {H : Hp} {ps : List Addr} : ∀ {ls : List (List Int)}, ps.length = ls.length → (∀ (i : Nat) (p : Addr) (l : List Int), ps[i]? = some p → ls[i]? = some l → SqL K H p (l.map V.int)) → DpAll K H (ps.map V.ref) (ls.map fun l => PyData.list (l.map PyData.int)) := fun {ls} => by
  induction ps generalizing ls with
  | nil =>
    intro h _
    cases ls with
    | nil => exact .nil
    | cons l ls => simp at h
  | cons p ps ih =>
    intro h g
    cases ls with
    | nil => simp at h
    | cons l ls => exact .cons (.lst (g 0 p l rfl rfl) (dp_ints l)) (ih (by simpa using h) fun i q m a b => g (i + 1) q m (by rw [List.getElem?_cons_succ]; exact a) (by rw [List.getElem?_cons_succ]; exact b))
theorem reprLL {K : PySem.W.Frag} {H : Hp} {Q : VK} {a : Addr} {ls : List (List Int)} {n : Nat} (h : Dp K H (.ref a) (dLL ls)) (hv : ∀ l ∈ ls, ∀ x ∈ l, x.natAbs < 10 ^ 12) (hl : ∀ l ∈ ls, l.length ≤ n) (hz : (41 * n + 1) * ls.length ≤ 2 ^ 20) (q : Q (.str (dLL ls).shown) H) : rRepr K [.ref a] H Q := by
  refine reprX h (.list fun d m => ?_) ?_ ?_ q
  · obtain ⟨l, hm, rfl⟩ := List.mem_map.mp m
    exact tm_ints (hv l hm)
  · unfold dLL
    simp only [PyData.depth]
    have := dep_all (ds := ls.map fun l => PyData.list (l.map PyData.int)) (n := 1) fun d m => by
      obtain ⟨l, hm, rfl⟩ := List.mem_map.mp m
      simp only [PyData.depth]
      have := dep_all (ds := l.map PyData.int) (n := 0) fun d m => by
        obtain ⟨x, hx, rfl⟩ := List.mem_map.mp m
        simp [PyData.depth]
      omega
    omega
  · unfold dLL
    simp only [PyData.weight]
    have := wt_all (ds := ls.map fun l => PyData.list (l.map PyData.int)) (n := 41 * n) fun d m => by
      obtain ⟨l, hm, rfl⟩ := List.mem_map.mp m
      exact Nat.le_trans (wt_ints (hv l hm)) (Nat.mul_le_mul_left _ (hl l hm))
    rw [List.length_map] at this
    omega
theorem k_lenSet {X : Cx} {K : PySem.W.Frag} {a : Expr} {ta : TE} {p p2 q pos : Pos} (hK : X.K = K) (hg : Gl X "len") (hm : X.mg "len" = none) (hg2 : Gl X "set") (hm2 : X.mg "set" = none) (ha : PE X a ta) (hc : X.calm = true := by rfl)
    (na : starEach [a] X.env = (false, eval a X.env) :: starEach [] X.env := by rfl) : PE X (.Call (.Name "len" p) [.Call (.Name "set" p2) [a] [] q] [] pos) (RZ.tLenSetI K ta) := by subst hK; exact RZ.pe_lenSetI hg hm hg2 hm2 ha hc na
theorem x_lenSet {K : PySem.W.Frag} {ta : TE} {σ : L2.St} {H : Hp} {Q : VK} : RZ.tLenSetI K ta σ H Q = ta σ H fun x H1 => ∃ (l : Addr) (ns : List Int), x = .ref l ∧ SqL K H1 l (ns.map V.int) ∧ ns.Nodup ∧ ns.length ≤ 4000 ∧ Q (.int (ns.length : Nat)) H1 := rfl
end BC

set_option Elab.async false
set_option linter.all false
set_option maxRecDepth 100000
set_option maxHeartbeats 4000000
/-! dicts: readings, loops over keys, keys that are texts of lists of digits -/
namespace BC
open PySem PySem.Spec PyProof.Rows L2 Evl
section
variable {K : PySem.W.Frag} {σ : L2.St} {H : Hp} {Q : VK} {QT : Bool → Hp → Prop} {td ty tv tx : TE} {D : Ends} {g : TG} {tb : TS} {c : TE}
theorem x_dnewK : tDNewK σ H Q = ∀ p, H p = none → Q (.ref p) (upd H p (.dK [])) := rfl
theorem x_dnewT : tDNewT σ H Q = ∀ p, H p = none → Q (.ref p) (upd H p (.dT [])) := rfl
theorem x_dget : tDGet td ty σ H Q = td σ H (fun x H1 => ty σ H1 fun y H2 => ∃ a v, x = .ref a ∧ DGet H2 a y (some v) ∧ Q v H2) := rfl
theorem x_dget1 : tDGet1 td ty σ H Q = td σ H (fun x H1 => ∃ a, x = .ref a ∧ IsD H1 a ∧ ty σ H1 fun y H2 => ∃ o, DGet H2 a y o ∧ Q (o.getD .non) H2) := rfl
theorem x_dget2 : tDGet2 td ty tx σ H Q = td σ H (fun x H1 => ∃ a, x = .ref a ∧ IsD H1 a ∧ ty σ H1 fun y H2 => tx σ H2 fun z H3 => ∃ o, DGet H3 a y o ∧ Q (o.getD z) H3) := rfl
theorem x_din : tDIn ty td σ H Q = ty σ H (fun y H1 => td σ H1 fun x H2 => ∃ a o, x = .ref a ∧ DGet H2 a y o ∧ Q (.bl o.isSome) H2) := rfl
theorem x_dnotin : tDNotIn ty td σ H Q = ty σ H (fun y H1 => td σ H1 fun x H2 => ∃ a o, x = .ref a ∧ DGet H2 a y o ∧ Q (.bl (!o.isSome)) H2) := rfl
theorem x_dput : sDPut td ty tv D σ H = tv σ H (fun v H1 => td σ H1 fun x H2 => ty σ H2 fun y H3 => ∃ a H4, x = .ref a ∧ DPut H3 a y v H4 ∧ D.nx σ H4) := rfl
theorem x_ikeys {R : It → Hp → Prop} : iKeys td σ H R = td σ H (fun x H1 => ∃ d o, x = .ref d ∧ ((∃ kvs, H1 d = some (.frz o (.dK kvs)) ∧ R (Itk d o kvs) H1) ∨ ∃ kvs, H1 d = some (.frz o (.dT kvs)) ∧ R (Itkt d o kvs) H1)) := rfl
/-- the keys of a locked dict -/
theorem lg_keys {d : Addr} {o : Obj} {kvs : List (Key × V)} (Pv : Nat → L2.St → Hp → Prop) (h0 : Pv 0 σ H) (hl : ∀ i σ H, i ≤ kvs.length → Pv i σ H → H d = some (.frz o (.dK kvs)))
    (hs : ∀ i k v σ H, kvs[i]? = some (k, v) → Pv i σ H → g (kV k) σ H fun σ2 H2 => tb { D with nx := Pv (i + 1), ct := Pv (i + 1), bk := D.nx } σ2 H2) (hd : ∀ σ H, Pv kvs.length σ H → D.nx σ H) : LoopG (Itk d o kvs) g tb D σ H := by
  refine ⟨fun i m σ H => m = kvs.length - i ∧ i ≤ kvs.length ∧ Pv i σ H, ⟨kvs.length, by simp, Nat.zero_le _, h0⟩, ?_⟩
  rintro i m σ H ⟨rfl, hi, p⟩
  have q := hl i σ H hi p
  by_cases hlt : i < kvs.length
  · refine .inr ⟨⟨q, hlt⟩, Pv (i + 1), fun σ' H' p' => ⟨kvs.length - (i + 1), by omega, rfl, hlt, p'⟩, fun x H' y => ?_⟩
    obtain ⟨rfl, k, v, e, rfl⟩ := y
    exact hs i k v σ _ e p
  · have e : i = kvs.length := by omega
    subst e
    exact .inl ⟨⟨q, Nat.le_refl _⟩, hd σ H p⟩
end
theorem frz_ex {H H' : Hp} {d : Addr} {u x : HO} (h : H d = some u) (e : Ex (upd H d x) H') : Ex H (upd H' d u) := fun a o ho => by
  by_cases q : a = d
  · subst q
    rw [upd_same]
    rw [h] at ho
    exact ho
  · rw [upd_ne q]
    exact e a o (by rw [upd_ne q]; exact ho)
theorem ex_frz {H H' : Hp} {d a : Addr} {o : HO} {x : HO} (q : a ≠ d) (ho : H a = some o) (e : Ex (upd H d x) H') : H' a = some o := e a o (by rw [upd_ne q]; exact ho)
/-! ### lists of digits, shown -/
def Dg (t : List Int) : Prop := ∀ n ∈ t, 0 ≤ n ∧ n < 10
def digL (cs : List Nat) : List Int := (cs.filter fun c => decide (48 ≤ c) && decide (c < 58)).map fun c : Nat => (c : Int) - 48
theorem digL_append (a b : List Nat) : digL (a ++ b) = digL a ++ digL b := by
  unfold digL
  rw [List.filter_append, List.map_append]
theorem digL_one : ∀ k : Fin 10, digL (Str.ofString (toString ((k.val : Nat) : Int))).cps.toList = [((k.val : Nat) : Int)] := by decide +kernel
theorem digL_int {n : Int} (h0 : 0 ≤ n) (h1 : n < 10) : digL (Str.ofString (toString n)).cps.toList = [n] := by
  have h := digL_one ⟨n.toNat, by omega⟩
  rw [show ((n.toNat : Nat) : Int) = n by omega] at h
  exact h
theorem digL_join : ∀ ns : List Int, Dg ns → digL (Str.join ", " (ns.map fun n => ((toString n : String) : Str))).cps.toList = ns
  | [], _ => by decide +kernel
  | [n], h => by
    obtain ⟨h0, h1⟩ := h n List.mem_cons_self
    exact digL_int h0 h1
  | n :: m :: ns, h => by
    obtain ⟨h0, h1⟩ := h n List.mem_cons_self
    have ih := digL_join (m :: ns) fun x hx => h x (List.mem_cons_of_mem _ hx)
    show digL ((((toString n : String) : Str) ++ ", " ++ Str.join ", " ((m :: ns).map fun n => ((toString n : String) : Str))).cps.toList) = _
    rw [cps_toList_append, cps_toList_append, digL_append, digL_append, ih, digL_int h0 h1, signs_sep]
    rfl
theorem digL_shown {ns : List Int} (h : Dg ns) : digL (shInts ns).cps.toList = ns := by
  unfold shInts
  rw [PyData.shown_list, PyData.shownAll_ints, cps_toList_append, cps_toList_append, digL_append, digL_append, digL_join ns h, signs_lbrack, signs_rbrack]
  show [] ++ ns ++ [] = ns
  simp
theorem shInts_inj {a b : List Int} (ha : Dg a) (hb : Dg b) (e : shInts a = shInts b) : a = b := by
  rw [← digL_shown ha, ← digL_shown hb, e]
/-! ### dicts by such texts -/
section
variable {α : Type} {f : α → V}
def kx (t : List Int) : Key := Sum.inr (shInts t)
theorem kx_inj {a b : List Int} (ha : Dg a) (hb : Dg b) : kx a = kx b ↔ a = b := ⟨fun e => shInts_inj ha hb (Sum.inr.inj e), fun e => by rw [e]⟩
def ren (f : α → V) (L : List (List Int × α)) : List (Key × V) := L.map fun p => (kx p.1, f p.2)
def getA (L : List (List Int × α)) (t : List Int) : Option α := (L.find? fun p => decide (p.1 = t)).map (·.2)
def putA (L : List (List Int × α)) (t : List Int) (a : α) : List (List Int × α) := if (L.any fun p => decide (p.1 = t)) = true then L.map (fun p => if p.1 = t then (p.1, a) else p) else L ++ [(t, a)]
theorem ren_val (t : List Int) (ht : Dg t) : ∀ L : List (List Int × α), (∀ p ∈ L, Dg p.1) → valV (ren f L) (kx t) = (getA L t).map f
  | [], _ => rfl
  | p :: L, h => by
    have ih := ren_val t ht L fun q hq => h q (List.mem_cons_of_mem _ hq)
    have hp := h p List.mem_cons_self
    show valV ((kx p.1, f p.2) :: ren f L) (kx t) = _
    by_cases e : p.1 = t
    · rw [valV_pos (by show kx p.1 = kx t; rw [e])]
      simp [getA, e]
    · rw [valV_neg (by show ¬ kx p.1 = kx t; rw [kx_inj hp ht]; exact e), ih]
      simp [getA, e]
theorem ren_any (t : List Int) (ht : Dg t) : ∀ L : List (List Int × α), (∀ p ∈ L, Dg p.1) → ((ren f L).any fun kv => decide (kv.1 = kx t)) = L.any fun p => decide (p.1 = t)
  | [], _ => rfl
  | p :: L, h => by
    have ih := ren_any t ht L fun q hq => h q (List.mem_cons_of_mem _ hq)
    have hp := h p List.mem_cons_self
    show (decide (kx p.1 = kx t) || (ren f L).any fun kv => decide (kv.1 = kx t)) = _
    rw [ih, List.any_cons]
    congr 1
    exact decide_eq_decide.mpr (kx_inj hp ht)
theorem ren_put (t : List Int) (ht : Dg t) (a : α) (L : List (List Int × α)) (h : ∀ p ∈ L, Dg p.1) : putK (ren f L) (kx t) (f a) = ren f (putA L t a) := by
  unfold putK putA
  rw [ren_any t ht L h]
  by_cases c : (L.any fun p => decide (p.1 = t)) = true
  · rw [if_pos c, if_pos c]
    unfold ren
    rw [List.map_map, List.map_map]
    refine List.map_congr_left fun p hp => ?_
    show (if kx p.1 = kx t then (kx p.1, f a) else (kx p.1, f p.2)) = _
    by_cases e : p.1 = t
    · rw [if_pos (by rw [e])]
      show _ = (kx (if p.1 = t then (p.1, a) else p).1, f (if p.1 = t then (p.1, a) else p).2)
      rw [if_pos e]
    · rw [if_neg (by rw [kx_inj (h p hp) ht]; exact e)]
      show _ = (kx (if p.1 = t then (p.1, a) else p).1, f (if p.1 = t then (p.1, a) else p).2)
      rw [if_neg e]
  · rw [if_neg c, if_neg c]
    unfold ren
    rw [List.map_append]
    rfl
theorem putA_key {L : List (List Int × α)} {t : List Int} {a : α} {p : List Int × α} (h : p ∈ putA L t a) : p.1 = t ∨ ∃ q ∈ L, q.1 = p.1 := by
  unfold putA at h
  split at h
  · obtain ⟨q, hq, rfl⟩ := List.mem_map.mp h
    refine .inr ⟨q, hq, ?_⟩
    split <;> rfl
  · rcases List.mem_append.mp h with h | h
    · exact .inr ⟨p, h, rfl⟩
    · rw [List.mem_singleton.mp h]
      exact .inl rfl
theorem putA_len (L : List (List Int × α)) (t : List Int) (a : α) : (putA L t a).length ≤ L.length + 1 := by
  unfold putA
  split
  · rw [List.length_map]; omega
  · rw [List.length_append, List.length_singleton]; omega
theorem ren_len (L : List (List Int × α)) : (ren f L).length = L.length := by unfold ren; rw [List.length_map]
theorem ren_at {L : List (List Int × α)} {i : Nat} {k : Key} {v : V} (h : (ren f L)[i]? = some (k, v)) : ∃ t a, L[i]? = some (t, a) ∧ k = kx t ∧ v = f a := by
  unfold ren at h
  rw [List.getElem?_map] at h
  cases e : L[i]? with
  | none => rw [e] at h; cases h
  | some p => rw [e] at h; cases h; exact ⟨p.1, p.2, rfl, rfl, rfl⟩
end
end BC
namespace BC
open PySem PySem.Spec PyProof.Rows L2 Evl
section
variable {α : Type} {f : α → V}
theorem putA_nodup {L : List (List Int × α)} {t : List Int} {a : α} (h : (L.map (·.1)).Nodup) : ((putA L t a).map (·.1)).Nodup := by
  unfold putA
  split
  · rw [List.map_map]
    have e : ((fun p : List Int × α => p.1) ∘ fun p : List Int × α => if p.1 = t then (p.1, a) else p) = fun p => p.1 := funext fun p => by
      show (if p.1 = t then (p.1, a) else p).1 = p.1
      split <;> rfl
    rw [e]
    exact h
  · next c =>
    rw [List.map_append, List.nodup_append]
    refine ⟨h, by simp, fun x hx y hy e => ?_⟩
    obtain ⟨p, hp, rfl⟩ := List.mem_map.mp hx
    have hy' : y = t := by simpa using hy
    refine c (List.any_eq_true.mpr ⟨p, hp, decide_eq_true ?_⟩)
    rw [e, hy']
theorem getA_at : ∀ {L : List (List Int × α)} {i : Nat} {t : List Int} {a : α}, (L.map (·.1)).Nodup → L[i]? = some (t, a) → getA L t = some a
  | [], _, _, _, _, h => by simp at h
  | p :: L, 0, t, a, _, h => by
    have : p = (t, a) := by simpa using h
    subst this
    simp [getA]
  | p :: L, i + 1, t, a, nd, h => by
    rw [List.map_cons, List.nodup_cons] at nd
    have h' : L[i]? = some (t, a) := by simpa using h
    have ih := getA_at nd.2 h'
    have ne : p.1 ≠ t := fun e => nd.1 (List.mem_map.mpr ⟨(t, a), List.mem_of_getElem? h', e.symm⟩)
    unfold getA at ih ⊢
    rw [List.find?_cons, decide_eq_false ne]
    exact ih
end
/-- what stands at a text's key, counted -/
theorem ren_get {L : List (List Int × Int)} {t : List Int} (ht : Dg t) (h : ∀ p ∈ L, Dg p.1) : (valV (ren V.int L) (kx t)).getD (.int 0) = .int ((getA L t).getD 0) := by
  rw [ren_val t ht L h]
  cases getA L t <;> rfl
theorem ints_at {ns : List Int} {i : Nat} {v : V} (h : (ns.map V.int)[i]? = some v) : ∃ n, ns[i]? = some n ∧ v = .int n := by
  rw [List.getElem?_map] at h
  cases e : ns[i]? with
  | none => rw [e] at h; cases h
  | some n => rw [e] at h; cases h; exact ⟨n, rfl, rfl⟩
theorem refs_at {ps : List Addr} {i : Nat} {v : V} (h : (ps.map V.ref)[i]? = some v) : ∃ q, ps[i]? = some q ∧ v = .ref q := by
  rw [List.getElem?_map] at h
  cases e : ps[i]? with
  | none => rw [e] at h; cases h
  | some n => rw [e] at h; cases h; exact ⟨n, rfl, rfl⟩
theorem tyS {K : PySem.W.Frag} {H : Hp} {x : Str} : tyV K "str" (.str x) H := rfl
end BC

set_option Elab.async false
set_option linter.all false
set_option maxRecDepth 100000
set_option maxHeartbeats 4000000
/-! sorted(set(xs)) of a list of numbers -/
namespace BC
open PySem PySem.Spec PyProof.Rows L2 Evl RZ
/-- the set that set() starts with -/
abbrev set0 (w : World) : Obj := { cls := .type "set", dict := none, data := .set #[] 0 (.fresh 0 0 (!w.params.followText "set-order")) }
abbrev with0 (w : World) (s : Shared) : Shared := { s with heap := s.heap.push (set0 w) }
section
variable {P : Program} {w : World} {A : Around} {E : Value → Shared → Prop} {s : Shared}
set_option maxHeartbeats 3200000 in
theorem set_of_list {l : Addr} {its : Array Value} (ns : List Int) {Q : Value → Shared → Prop} (hh : A.handled = none) (hl : s.heap.IsList l its) (hit : IntsAre its.toList ns) (hb : ns.length + 1 < scanBound)
    (fin : ∀ (h' : Heap) (tk c : Nat), SetR w h' s.heap.objs.size (fun j => decide (j ∈ ns)) c → c ≤ ns.length → (∀ b o, s.heap.get? b = some o → h'.get? b = some o) → Q (.ref s.heap.objs.size) { s with heap := h', toks := tk }) :
    wpAny (model P w) A (call (.type "set") [.ref l]) Q E s := by
  have many : its.size = ns.length := by rw [← IntsAre.length hit, Array.length_toList]
  obtain ⟨c, tl, hmro⟩ := F.called_set.mro
  have m1 := F.called_set.made
  have m2 := F.called_set.sub
  refine wpAny_call (codeAny_of_tree (wpAny_pure ⟨Code.quiet_builtin _ (by decide +kernel), codeAny_builtin F.entry_type_call ?_⟩))
  rw [Around.under_plain (weight_type_call_type "set" [.ref l] []) rfl]
  have m3 := F.called_set.notType
  have m4 := F.called_set.canCreate
  have m5 := F.typeCall_set_1 (.ref l)
  repeat (any_goals (first | assumption | wp_step))
  refine codeAny_mono (code_set_led1 (.ref l) (E := E) (Q₁ := fun obj s₁ => obj = .ref s.heap.objs.size ∧ s₁ = with0 w s) ⟨rfl, rfl⟩) fun r s₁ hr => ?_
  match r, hr with
  | .error e, hr => exact hr
  | .ok .next, hr => exact hr.elim
  | .ok .brk, hr => exact hr.elim
  | .ok .cont, hr => exact hr.elim
  | .ok (.ret obj), hr =>
    obtain ⟨rfl, rfl⟩ := hr
    have at0 : (s.heap.push (set0 w)).get? s.heap.objs.size = some (set0 w) := Heap.get?_push_size _ rfl
    have ty0 : Shared.TypeIs (with0 w s) (.ref s.heap.objs.size) "set" := ⟨_, at0, rfl⟩
    have i1 := F.called_set.init.lookup
    have i2 := F.called_set.init.bind (.ref s.heap.objs.size)
    repeat (any_goals (first | assumption | wp_step))
    refine codeAny_mono (codeAny_call_builtin (R := wants (fun r s₂ => r = .none ∧ ∃ h' tk c, s₂ = { s with heap := h', toks := tk } ∧ SetR w h' s.heap.objs.size (fun j => decide (j ∈ ns)) c ∧ c ≤ ns.length ∧ (∀ b o, s.heap.get? b = some o → h'.get? b = some o)) E)
      F.called_set.init.plain F.entry_set_init (check_set_init_1 ty0 ?_)) fun r₂ s₂ hr₂ => ?_
    · obtain ⟨⟨oc, od, dt, osl⟩, old, e1, nl, e2⟩ := hl
      obtain rfl : oc = .type "list" := e1
      obtain rfl : dt = .seq its nl := e2
      have pushed := Heap.get?_push_of_some (set0 w) old
      have isl : (s.heap.push (set0 w)).IsList l its := ⟨_, pushed, rfl, nl, rfl⟩
      have k1 := F.sub_list_set
      have k2 := F.sub_list_frozenset
      have k3 : (Value.type "list" == Value.type "dict") = false := by decide
      have hltl : l < s.heap.objs.size := Heap.lt_size old
      unfold Builtin.«set.__init__» noKeywords Builtin.Frozenset.updateFrom
      generalize hPI : pyIter = PI
      wp_walk
      subst hPI
      refine wpAny_pyIter_list isl (wpAny_bind (wpAny_runValue ?_))
      have calm3 : A.in1.in1.in1.handled = none := by simp [hh]
      have psz : (s.heap.push (set0 w)).objs.size = s.heap.objs.size + 1 := Heap.size_push ..
      have apart : l ≠ (s.heap.push (set0 w)).objs.size := fun z => Nat.lt_irrefl l (by rw [psz] at z; exact Nat.lt_of_lt_of_le hltl (by rw [z]; exact Nat.le_succ _))
      have away : s.heap.objs.size ∉ [(s.heap.push (set0 w)).objs.size, l] := by
        rw [psz]
        intro z
        simp only [List.mem_cons, List.mem_nil_iff, or_false] at z
        rcases z with z | z
        · exact absurd z (Nat.ne_of_lt (Nat.lt_succ_self _))
        · exact absurd z (Nat.ne_of_gt hltl)
      have items : ∀ (i : Nat) (v : Value), its[i]? = some v → ∃ k t, ns[i]? = some k ∧ v = .int k t := fun i v hv => by
        have hi : i < ns.length := by rw [← many]; exact (Array.getElem?_eq_some_iff.mp hv).1
        obtain ⟨t, e⟩ := IntsAre.int_at hit i v (by rw [Array.getElem?_toList]; exact hv)
        refine ⟨ns[i], t, List.getElem?_eq_getElem hi, ?_⟩
        rw [e, List.getD_eq_getElem?_getD, List.getElem?_eq_getElem hi]
        rfl
      refine set_update_ints ((Walks.list calm3 _ l apart its).toS) s.heap.objs.size away ns many hb items its.size 0 _ (by omega) (Nat.zero_le _) ⟨⟨_, Heap.get?_push_size _ rfl, rfl, rfl⟩, (isl.push _)⟩ ⟨0, Nat.le_refl 0, ?_⟩ fun s' c' mv hc' hS' => ?_
      · exact setR_new_at (Heap.get?_push_of_some _ at0)
      · obtain ⟨h', g2, d', tk', os'⟩ := s'
        obtain rfl : g2 = s.gens := mv.gens
        obtain rfl : d' = s.drawn := mv.drawn
        obtain rfl : os' = s.os := mv.os
        refine wpAny_pure (wpAny_pure ⟨rfl, h', tk', c', rfl, hS', by rw [many] at hc'; exact hc', fun b o e => ?_⟩)
        have lt := Heap.lt_size e
        refine mv.heap b o ?_ (Heap.get?_push_of_some _ (Heap.get?_push_of_some _ e))
        intro z
        rw [psz] at z
        simp only [List.mem_cons, List.mem_nil_iff, or_false] at z
        rcases z with z | z
        · exact absurd z (Nat.ne_of_lt lt)
        · exact absurd z (Nat.ne_of_lt (Nat.lt_succ_of_lt lt))
    · match r₂, hr₂ with
      | .error e, hr₂ => exact hr₂
      | .ok .next, hr₂ => exact hr₂.elim
      | .ok .brk, hr₂ => exact hr₂.elim
      | .ok .cont, hr₂ => exact hr₂.elim
      | .ok (.ret r), hr₂ =>
        obtain ⟨rfl, h', tk, c', rfl, q1, q2, q3⟩ := hr₂
        repeat (any_goals (first | assumption | wp_step))
        exact fin _ _ _ q1 q2 q3
end
section
variable {X : Cx} {K : PySem.W.Frag} {a : Expr} {ta : TE} {p p2 q pos : Pos}
/-- sorted(set(xs)): the different numbers in order -/
def tSortSet (K : PySem.W.Frag) (ta : TE) : TE := fun σ H Q => ta σ H fun x H1 => ∃ (l : Addr) (ns : List Int), x = .ref l ∧ SqL K H1 l (ns.map V.int) ∧ ns.length < 64 ∧
  ∀ (ms : List Int) r, ms.Pairwise (· < ·) → (∀ k : Int, k ∈ ms ↔ k ∈ ns) → H1 r = none → Q (.ref r) (upd H1 r (.lst (ms.map V.int)))
theorem k_sortSet (hK : X.K = K) (hg : Gl X "sorted") (hm : X.mg "sorted" = none) (hg2 : Gl X "set") (hm2 : X.mg "set" = none) (ha : PE X a ta) (hc : X.calm = true := by rfl)
    (na : starEach [a] X.env = (false, eval a X.env) :: starEach [] X.env := by rfl) : PE X (.Call (.Name "sorted" p) [.Call (.Name "set" p2) [a] [] q] [] pos) (tSortSet K ta) := by
  subst hK
  refine ⟨fun pins s σ H Q I h => ?_⟩
  refine Call_ (ld_blt I hg hm (show bootBuiltins ("sorted" : Str) = some (.builtin "sorted") by decide +kernel) ?_)
  refine callWith_builtin1 (args_cons ?_ rfl) rfl rfl
  refine Call_ (ld_blt I hg2 hm2 boot_set ?_)
  refine callWith_type1 (args_cons (thn (ha.run pins s σ H _ I h) fun v s1 ⟨x, H1, I1, r1, q1⟩ => args_nil ?_) na) na rfl
  obtain ⟨l, ns, rfl, hq, hl, q1⟩ := q1
  cases r1
  obtain ⟨its, r, pl, hz⟩ := I1.list hq
  refine set_of_list ns (I1.ok.hd hc) pl.isList (by simpa using intsAre_vals r) (by unfold scanBound; omega) fun h' tk c hS hcl hk => ?_
  refine args_nil ?_
  have I2 : Inv X pins σ H1 { s1 with heap := h', toks := tk } := I1.kept hk
  refine sorted_set hS (I2.ok.hd hc) (by omega) fun s' p out c2 ms k g o hp hg hi hs hm hlen => ?_
  have few : (ms.map V.int).length ≤ sizeLine := by rw [List.length_map, hlen, sizeLine_eq]; omega
  have hn : H1 p = none := I2.hok.fresh hp
  have J : Inv X pins σ (upd H1 p (.lst (ms.map V.int))) { ({ s1 with heap := h', toks := tk } : Shared) with heap := s'.heap, gens := s'.gens, drawn := s'.drawn, toks := s'.toks } :=
    I2.call (ch := []) (Un.laid k hp hn) (I2.hok.laid k hp ⟨few, out.toList, c2, vals_of_ints hi, hg⟩) (by rw [g]; exact I2.bare) (fun _ z => nomatch z)
  have e : s' = { ({ s1 with heap := h', toks := tk } : Shared) with heap := s'.heap, gens := s'.gens, drawn := s'.drawn, toks := s'.toks } := by
    cases s'
    cases o
    rfl
  rw [e]
  exact ⟨.ref p, _, J, rfl, q1 ms p hs (fun k => by rw [hm k, decide_eq_true_eq]) hn⟩
theorem x_sortSet {σ : L2.St} {H : Hp} {Q : VK} : tSortSet K ta σ H Q = ta σ H fun x H1 => ∃ (l : Addr) (ns : List Int), x = .ref l ∧ SqL K H1 l (ns.map V.int) ∧ ns.length < 64 ∧
  ∀ (ms : List Int) r, ms.Pairwise (· < ·) → (∀ k : Int, k ∈ ms ↔ k ∈ ns) → H1 r = none → Q (.ref r) (upd H1 r (.lst (ms.map V.int))) := rfl
end
/-- two ascending lists of the same numbers are the same -/
theorem asc_same : ∀ {a b : List Int}, a.Pairwise (· < ·) → b.Pairwise (· < ·) → (∀ k : Int, k ∈ a ↔ k ∈ b) → a = b
  | [], [], _, _, _ => rfl
  | [], y :: b, _, _, h => absurd ((h y).mpr List.mem_cons_self) List.not_mem_nil
  | x :: a, [], _, _, h => absurd ((h x).mp List.mem_cons_self) List.not_mem_nil
  | x :: a, y :: b, ha, hb, h => by
    rw [List.pairwise_cons] at ha hb
    have xy : x = y := by
      have h1 := (h x).mp List.mem_cons_self
      have h2 := (h y).mpr List.mem_cons_self
      rcases List.mem_cons.mp h1 with e | e
      · exact e
      · rcases List.mem_cons.mp h2 with e2 | e2
        · exact e2.symm
        · have := ha.1 y e2
          have := hb.1 x e
          omega
    subst xy
    rw [asc_same ha.2 hb.2 fun k => ⟨fun m => by
      rcases List.mem_cons.mp ((h k).mp (List.mem_cons_of_mem _ m)) with e | e
      · subst e; have := ha.1 k m; omega
      · exact e, fun m => by
      rcases List.mem_cons.mp ((h k).mpr (List.mem_cons_of_mem _ m)) with e | e
      · subst e; have := hb.1 k m; omega
      · exact e⟩]
end BC

set_option Elab.async false
set_option linter.all false
set_option maxRecDepth 100000
set_option maxHeartbeats 4000000
/-! sites: lists of lists of natural numbers, and how they lie in the heap -/
namespace BC
open PySem PySem.Spec PyProof.Rows L2 Evl
/-! ### xs + ys of lists of any origin -/
section
variable {prog : Program} {w : World} {A : Around} {E : Value → Shared → Prop} {s : Shared}
theorem add_plain {l b : Addr} {its its2 : Array Value} {Q : Value → Shared → Prop} (x : PlainL s.heap l its) (y : PlainL s.heap b its2) (fits : its.size + its2.size ≤ sizeLine)
    (q : Q (.ref s.heap.objs.size) { s with heap := s.heap.push { cls := .type "list", data := .seq (its ++ its2) } }) : wpAny (model prog w) A (binaryOp .Add (.ref l) (.ref b)) Q E s := by
  obtain ⟨⟨c1, d1, k1, z1⟩, n1, g1, e1, e2, e3⟩ := x
  obtain ⟨⟨c2, d2, k2, z2⟩, n2, g2, e4, e5, e6⟩ := y
  obtain rfl : c1 = .type "list" := e1
  obtain rfl : c2 = .type "list" := e4
  obtain rfl : k1 = .seq its n1 := e3
  obtain rfl : k2 = .seq its2 n2 := e6
  exact concat_meets ⟨_, g1, rfl⟩ ⟨_, g2, rfl⟩ noFill_list_add seq_list_add F.slot_list_add F.entry_list_add (F.args_list_add_2 _ _) (list_addW l b its its2 n1 n2 d1 d2 z1 z2 fits) ⟨g1, g2, q⟩
end
def rCatS (K : PySem.W.Frag) : R2 := fun x y H Q => ∃ l b xs zs, x = .ref l ∧ y = .ref b ∧ SqL K H l xs ∧ SqL K H b zs ∧ xs.length + zs.length ≤ sizeLine ∧ ∀ p, H p = none → Q (.ref p) (upd H p (.lst (xs ++ zs)))
theorem k_catS {X : Cx} {K : PySem.W.Frag} (hK : X.K = K) : OpR X (binaryOp .Add) (rCatS K) := by
  subst hK
  intro pins s σ H x y v u Q I rx ry h
  obtain ⟨l, b, xs, zs, rfl, rfl, hH, hB, hz, q⟩ := h
  cases rx
  cases ry
  obtain ⟨its, r, p1, _⟩ := I.list hH
  obtain ⟨its2, r2, p2, _⟩ := I.list hB
  have l1 := r.length
  have l2 := r2.length
  refine add_plain p1 p2 (by rw [List.size_toArray, List.size_toArray]; omega) ?_
  have ea : its.toArray ++ its2.toArray = (its ++ its2).toArray := by simp
  rw [ea]
  exact ⟨.ref _, _, I.lnew (t' := s.toks) (r.append r2) (by rw [List.length_append]; omega), rfl, q _ I.fresh⟩
theorem catS {K : PySem.W.Frag} {H : Hp} {Q : VK} {p b : Addr} {xs ys : List V} (h : SqL K H p xs) (hb : SqL K H b ys) (hz : xs.length + ys.length ≤ sizeLine) (q : ∀ l, H l = none → Q (.ref l) (upd H l (.lst (xs ++ ys)))) : rCatS K (.ref p) (.ref b) H Q := ⟨p, b, xs, ys, rfl, rfl, h, hb, hz, q⟩
/-- natural numbers as the program's -/
def nz (L : List Nat) : List Int := L.map fun x : Nat => (x : Int)
theorem nz_len (L : List Nat) : (nz L).length = L.length := List.length_map _
theorem nz_at {L : List Nat} {i x : Nat} (h : L[i]? = some x) : ((nz L).map V.int)[i]? = some (.int (x : Int)) := by
  unfold nz
  rw [List.getElem?_map, List.getElem?_map, h]
  rfl
theorem at_nz {L : List Nat} {i : Nat} {v : V} (h : ((nz L).map V.int)[i]? = some v) : ∃ x, L[i]? = some x ∧ v = .int (x : Int) := by
  unfold nz at h
  rw [List.getElem?_map, List.getElem?_map] at h
  cases e : L[i]? with
  | none => rw [e] at h; cases h
  | some x => rw [e] at h; cases h; exact ⟨x, rfl, rfl⟩
theorem nz_mem {L : List Nat} {x : Nat} : ((x : Nat) : Int) ∈ nz L ↔ x ∈ L := by
  unfold nz
  rw [List.mem_map]
  exact ⟨fun ⟨y, h, e⟩ => by rw [← Int.ofNat.inj e]; exact h, fun h => ⟨x, h, rfl⟩⟩
theorem nz_inj : ∀ {a b : List Nat}, nz a = nz b → a = b
  | [], [], _ => rfl
  | [], y :: b, h => by cases h
  | x :: a, [], h => by cases h
  | x :: a, y :: b, h => by
    have h1 := (List.cons.inj h).1
    have h2 := (List.cons.inj h).2
    rw [nz_inj (show nz a = nz b from h2), Int.ofNat.inj h1]
theorem nz_app (a b : List Nat) : nz (a ++ b) = nz a ++ nz b := List.map_append
theorem nz_v (a : List Nat) (x : Nat) : (nz a).map V.int ++ [V.int (x : Int)] = (nz (a ++ [x])).map V.int := by rw [nz_app, List.map_append]; rfl
theorem lts {l : List Nat} (h : l.Pairwise (· < ·)) : (nz l).Pairwise (· < ·) := by
  unfold nz
  rw [List.pairwise_map]
  exact h.imp fun h => by omega
theorem nz_nodup {l : List Nat} (h : l.Nodup) : (nz l).Nodup := by
  unfold nz List.Nodup
  rw [List.pairwise_map]
  exact h.imp fun h e => h (Int.ofNat.inj e)
theorem nodup_lt : ∀ (n : Nat) {l : List Nat}, l.Nodup → (∀ x ∈ l, x < n) → l.length ≤ n
  | 0, [], _, _ => Nat.le_refl _
  | 0, x :: l, _, h => by have := h x List.mem_cons_self; omega
  | n + 1, l, h1, h2 => by
    by_cases m : n ∈ l
    · have h3 := nodup_lt n (l := l.erase n) (h1.erase _) (fun x hx => by
        have a := h2 x (List.mem_of_mem_erase hx)
        have b : x ≠ n := fun e => by
          rw [h1.mem_erase_iff] at hx
          exact hx.1 e
        omega)
      have := List.length_erase_of_mem m
      omega
    · have h3 := nodup_lt n h1 (fun x hx => by
        have a := h2 x hx
        have b : x ≠ n := fun e => m (e ▸ hx)
        omega)
      omega
theorem asc_nodup {l : List Nat} (h : l.Pairwise (· < ·)) : l.Nodup := h.imp fun h => by omega
/-! ### sites -/
abbrev Grid := List (List Nat)
structure SiteOk (G : Grid) : Prop where
  n1 : 1 ≤ G.length
  n2 : G.length ≤ 12
  asc : ∀ (i : Nat) (r : List Nat), G[i]? = some r → r.Pairwise (· < ·)
  lt : ∀ (i : Nat) (r : List Nat), G[i]? = some r → ∀ x ∈ r, x < G.length
  no : ∀ (i : Nat) (r : List Nat), G[i]? = some r → i ∉ r
theorem SiteOk.len {G : Grid} (h : SiteOk G) {i : Nat} {r : List Nat} (e : G[i]? = some r) : r.length ≤ 12 := Nat.le_trans (nodup_lt _ (asc_nodup (h.asc i r e)) (h.lt i r e)) h.n2
/-- the row of a page -/
def row (G : Grid) (i : Nat) : List Nat := G.getD i []
theorem row_at {G : Grid} {i : Nat} {r : List Nat} (h : G[i]? = some r) : row G i = r := by
  unfold row
  rw [List.getD_eq_getElem?_getD, h]
  rfl
theorem at_row {G : Grid} {i : Nat} (h : i < G.length) : G[i]? = some (row G i) := by
  unfold row
  rw [List.getD_eq_getElem?_getD, List.getElem?_eq_getElem h]
  rfl
theorem SiteOk.rlt {G : Grid} (h : SiteOk G) {i x : Nat} (m : x ∈ row G i) : x < G.length := by
  by_cases q : i < G.length
  · exact h.lt i _ (at_row q) x m
  · unfold row at m
    rw [List.getD_eq_getElem?_getD, List.getElem?_eq_none (by omega)] at m
    exact (List.not_mem_nil m).elim
theorem SiteOk.rlen {G : Grid} (h : SiteOk G) (i : Nat) : (row G i).length ≤ 12 := by
  by_cases q : i < G.length
  · exact h.len (at_row q)
  · unfold row
    rw [List.getD_eq_getElem?_getD, List.getElem?_eq_none (by omega)]
    exact Nat.zero_le _
/-- a list at s of lists of numbers -/
def GridAt (H : Hp) (s : Addr) (G : Grid) : Prop := ∃ ps : List Addr, H s = some (.lst (ps.map V.ref)) ∧ ps.length = G.length ∧ ∀ i p, ps[i]? = some p → H p = some (.lst ((nz (row G i)).map V.int))
theorem GridAt.ex {H H' : Hp} {s : Addr} {G : Grid} (h : GridAt H s G) (e : Ex H H') : GridAt H' s G := by
  obtain ⟨ps, h1, h2, h3⟩ := h
  exact ⟨ps, e _ _ h1, h2, fun i p q => e _ _ (h3 i p q)⟩
theorem GridAt.get {H : Hp} {s : Addr} {G : Grid} (h : GridAt H s G) {i : Nat} (hi : i < G.length) : ∃ p xs, H s = some (.lst xs) ∧ xs.length = G.length ∧ xs[i]? = some (.ref p) ∧ H p = some (.lst ((nz (row G i)).map V.int)) := by
  obtain ⟨ps, h1, h2, h3⟩ := h
  have hx : ps[i]? = some ps[i] := List.getElem?_eq_getElem (by omega)
  exact ⟨ps[i], _, h1, by rw [List.length_map]; exact h2, by rw [List.getElem?_map, hx]; rfl, h3 i _ hx⟩
theorem GridAt.lst {H : Hp} {s : Addr} {G : Grid} (h : GridAt H s G) : ∃ xs, H s = some (.lst xs) ∧ xs.length = G.length ∧ ∀ (i : Nat) (v : V), xs[i]? = some v → i < G.length ∧ ∃ p, v = .ref p ∧ H p = some (.lst ((nz (row G i)).map V.int)) := by
  obtain ⟨ps, h1, h2, h3⟩ := h
  refine ⟨_, h1, by rw [List.length_map]; exact h2, fun i v e => ?_⟩
  rw [List.getElem?_map] at e
  cases q : ps[i]? with
  | none => rw [q] at e; cases e
  | some p =>
    rw [q] at e
    cases e
    exact ⟨by have := (List.getElem?_eq_some_iff.mp q).1; omega, p, rfl, h3 i p q⟩
/-- such a list, all of it new -/
def GridN (H H' : Hp) (s : Addr) (G : Grid) : Prop := H s = none ∧ ∃ ps : List Addr, H' s = some (.lst (ps.map V.ref)) ∧ ps.length = G.length ∧ ps.Nodup ∧ s ∉ ps ∧ ∀ i p, ps[i]? = some p → H p = none ∧ H' p = some (.lst ((nz (row G i)).map V.int))
theorem GridN.at {H H' : Hp} {s : Addr} {G : Grid} (h : GridN H H' s G) : GridAt H' s G := by
  obtain ⟨_, ps, h1, h2, _, _, h3⟩ := h
  exact ⟨ps, h1, h2, fun i p q => (h3 i p q).2⟩
theorem GridN.ex {H H' H2 : Hp} {s : Addr} {G : Grid} (h : GridN H H' s G) (e : Ex H' H2) : GridN H H2 s G := by
  obtain ⟨h0, ps, h1, h2, h4, h5, h3⟩ := h
  exact ⟨h0, ps, e _ _ h1, h2, h4, h5, fun i p q => ⟨(h3 i p q).1, e _ _ (h3 i p q).2⟩⟩
theorem GridN.back {H0 H H' : Hp} {s : Addr} {G : Grid} (h : GridN H H' s G) (e : Ex H0 H) : GridN H0 H' s G := by
  obtain ⟨h0, ps, h1, h2, h4, h5, h3⟩ := h
  exact ⟨fresh_back e h0, ps, h1, h2, h4, h5, fun i p q => ⟨fresh_back e (h3 i p q).1, (h3 i p q).2⟩⟩
/-- what was new after Hc stands -/
def Nw (Hc H H' : Hp) : Prop := ∀ x o, Hc x = none → H x = some o → H' x = some o
theorem Nw.of {Hc H H' : Hp} (e : Ex H H') : Nw Hc H H' := fun x o _ h => e x o h
theorem Nw.trans {Hc H H' H'' : Hp} (e : Nw Hc H H') (f : Nw Hc H' H'') : Nw Hc H H'' := fun x o n h => f x o n (e x o n h)
theorem Nw.fx {Hc H H' : Hp} {b : Addr} {o : HO} (h : Hc b = some o) (f : Fx b H H') : Nw Hc H H' := fun x v n g => f x v (fun e => by subst e; rw [h] at n; cases n) g
theorem Nw.put {Hc H : Hp} {a : Addr} {o u : HO} (h : Hc a = some u) : Nw Hc H (upd H a o) := fun x v n g => by
  rw [upd_ne (fun e => by subst e; rw [h] at n; cases n)]
  exact g
theorem GridN.nw {H H1 H2 : Hp} {s : Addr} {G : Grid} (h : GridN H H1 s G) (e : Nw H H1 H2) : GridN H H2 s G := by
  obtain ⟨h0, ps, h1, h2, h4, h5, h3⟩ := h
  exact ⟨h0, ps, e _ _ h0 h1, h2, h4, h5, fun i p q => ⟨(h3 i p q).1, e _ _ (h3 i p q).1 (h3 i p q).2⟩⟩
/-- one row more, made while the grid stood -/
theorem GridN.push {H H1 H' : Hp} {s p : Addr} {G : Grid} {r : List Nat} (h : GridN H H1 s G) (nH : H p = none) (np : H1 p = none) (e : Nw H H1 H') (hp : H' p = some (.lst ((nz r).map V.int))) :
    ∃ xs, H' s = some (.lst xs) ∧ xs.length = G.length ∧ GridN H (upd H' s (.lst (xs ++ [.ref p]))) s (G ++ [r]) := by
  have q1 := h
  obtain ⟨h0, ps, h1, h2, h4, h5, h3⟩ := h
  have hs : p ≠ s := Ne.symm (ne_of_none h1 np)
  refine ⟨_, e _ _ h0 h1, by rw [List.length_map]; exact h2, h0, ps ++ [p], by rw [upd_same, List.map_append]; rfl, by rw [List.length_append, List.length_append, h2]; rfl, ?_, ?_, fun i q eq => ?_⟩
  · rw [List.nodup_append]
    refine ⟨h4, by simp, fun a ha b hb e => ?_⟩
    rw [List.mem_singleton.mp hb] at e
    subst e
    obtain ⟨j, hj, ej⟩ := List.getElem_of_mem ha
    have := (h3 j a (List.getElem?_eq_some_iff.mpr ⟨hj, ej⟩)).2
    rw [np] at this
    cases this
  · intro m
    rcases List.mem_append.mp m with m | m
    · exact h5 m
    · exact hs (List.mem_singleton.mp m).symm
  · by_cases hi : i < ps.length
    · rw [List.getElem?_append_left hi] at eq
      have := h3 i q eq
      have ns : q ≠ s := fun z => h5 (z ▸ List.mem_of_getElem? eq)
      refine ⟨this.1, ?_⟩
      rw [upd_ne ns, e _ _ this.1 this.2]
      unfold row
      rw [List.getD_eq_getElem?_getD, List.getD_eq_getElem?_getD, List.getElem?_append_left (by omega)]
    · rw [List.getElem?_append_right (by omega)] at eq
      have hi2 : i - ps.length = 0 := by
        have := (List.getElem?_eq_some_iff.mp eq).1
        rw [List.length_singleton] at this
        omega
      rw [hi2] at eq
      obtain rfl : p = q := by simpa using eq
      refine ⟨nH, ?_⟩
      rw [upd_ne hs, hp]
      unfold row
      have : i = G.length := by omega
      rw [this, List.getD_eq_getElem?_getD, List.getElem?_append_right (Nat.le_refl _), Nat.sub_self]
      rfl
theorem GridN.nil {H : Hp} {s : Addr} (h : H s = none) : GridN H (upd H s (.lst [])) s [] := ⟨h, [], upd_same, rfl, List.nodup_nil, List.not_mem_nil, fun i p e => by simp at e⟩
/-- as data -/
def dG (G : Grid) : PyData := .list (G.map fun r => .list ((nz r).map PyData.int))
theorem dG_LL (G : Grid) : dG G = dLL (G.map nz) := by unfold dG dLL; rw [List.map_map]; rfl
theorem GridAt.dp {K : PySem.W.Frag} {H : Hp} {s : Addr} {G : Grid} (h : GridAt H s G) : Dp K H (.ref s) (dG G) := by
  obtain ⟨ps, h1, h2, h3⟩ := h
  rw [dG_LL]
  refine .lst (.inl (.inl h1)) (dp_ll (by rw [List.length_map]; exact h2) fun i p l a b => ?_)
  rw [List.getElem?_map] at b
  cases q : G[i]? with
  | none => rw [q] at b; cases b
  | some r =>
    rw [q] at b
    cases b
    have := h3 i p a
    rw [row_at q] at this
    exact .inl (.inl this)
theorem shp_LL (ls : List (List Int)) : SeqAt.shaped (dLL ls) = true := by
  have h0 : ∀ ns : List Int, PyData.canLayAll0 (ns.map PyData.int) = true := fun ns => by
    induction ns with
    | nil => simp [PyData.canLayAll0]
    | cons n ns ih => simp [PyData.canLayAll0, PyData.canLay0, ih]
  have h1 : ∀ ls : List (List Int), PyData.canLayAll0 (ls.map fun l => PyData.list (l.map PyData.int)) = true := fun ls => by
    induction ls with
    | nil => simp [PyData.canLayAll0]
    | cons l ls ih => simp [PyData.canLayAll0, PyData.canLay0, ih, h0]
  have h2 := dep_all (ds := ls.map fun l => PyData.list (l.map PyData.int)) (n := 1) fun d m => by
      obtain ⟨l, hm, rfl⟩ := List.mem_map.mp m
      simp only [PyData.depth]
      have := dep_all (ds := l.map PyData.int) (n := 0) fun d m => by
        obtain ⟨x, hx, rfl⟩ := List.mem_map.mp m
        simp [PyData.depth]
      omega
  show (PyData.canLay0 _ && decide (PyData.depth _ ≤ 64)) = true
  rw [Bool.and_eq_true]
  refine ⟨?_, decide_eq_true ?_⟩
  · unfold dLL; simp only [PyData.canLay0]; exact h1 ls
  · unfold dLL; simp only [PyData.depth]; omega
theorem eqv_LL : ∀ as bs : List (List Int), PyData.eqv (dLL as) (dLL bs) = decide (as = bs) := fun as bs => by
  unfold dLL
  simp only [PyData.eqv]
  induction as generalizing bs with
  | nil => cases bs <;> simp [PyData.eqvAll]
  | cons a as ih =>
    cases bs with
    | nil => simp [PyData.eqvAll]
    | cons b bs =>
      simp only [List.map_cons, PyData.eqvAll, eqv_ints, ih]
      by_cases h : a = b
      · subst h; simp
      · simp [h]
theorem nzs_inj : ∀ {a b : Grid}, a.map nz = b.map nz → a = b
  | [], [], _ => rfl
  | [], y :: b, h => by cases h
  | x :: a, [], h => by cases h
  | x :: a, y :: b, h => by
    rw [List.map_cons, List.map_cons] at h
    rw [nz_inj (List.cons.inj h).1, nzs_inj (List.cons.inj h).2]
theorem eqGrid {K : PySem.W.Frag} {H : Hp} {Q : VK} {a b : Addr} {F G : Grid} (h : GridAt H a F) (g : GridAt H b G) (q : Q (.bl (decide (F = G))) H) : rEqD K (.ref a) (.ref b) H Q := by
  have e : decide (F.map nz = G.map nz) = decide (F = G) := by
    by_cases z : F = G
    · rw [z, decide_eq_true rfl, decide_eq_true rfl]
    · rw [decide_eq_false z, decide_eq_false fun y => z (nzs_inj y)]
  refine ⟨_, _, h.dp, g.dp, by rw [dG_LL]; exact shp_LL _, by rw [dG_LL]; exact shp_LL _, ?_⟩
  rw [dG_LL, dG_LL, eqv_LL, e]
  exact q
theorem neGrid {K : PySem.W.Frag} {H : Hp} {Q : VK} {a b : Addr} {F G : Grid} (h : GridAt H a F) (g : GridAt H b G) (q : Q (.bl (!decide (F = G))) H) : rNeD K (.ref a) (.ref b) H Q := by
  have e : decide (F.map nz = G.map nz) = decide (F = G) := by
    by_cases z : F = G
    · rw [z, decide_eq_true rfl, decide_eq_true rfl]
    · rw [decide_eq_false z, decide_eq_false fun y => z (nzs_inj y)]
  refine ⟨_, _, h.dp, g.dp, by rw [dG_LL]; exact shp_LL _, by rw [dG_LL]; exact shp_LL _, ?_⟩
  rw [dG_LL, dG_LL, eqv_LL, e]
  exact q
theorem at_ints {ns : List Int} {i : Nat} {n : Int} (h : ns[i]? = some n) : (ns.map V.int)[i]? = some (.int n) := by rw [List.getElem?_map, h]; rfl
theorem atI_last {xs : List V} {v : V} (h : xs[xs.length - 1]? = some v) : atI xs (-1) = some v := by
  have hl : xs.length - 1 < xs.length := (List.getElem?_eq_some_iff.mp h).1
  have e : ixN xs.length (-1) = some (xs.length - 1) := by
    unfold ixN
    rw [if_neg (by omega), if_pos (by omega)]
    congr 1
    omega
  unfold atI
  rw [e]
  exact h
theorem cutV_from1 (xs : List V) : cutV xs (some 1) none = xs.drop 1 := by
  unfold cutV
  have e2 : HT.sIx xs.length xs.length none = xs.length := rfl
  have e1 : HT.sIx xs.length 0 (some 1) = min 1 xs.length := HT.sIx_nat ..
  rw [e1, e2]
  by_cases h : 1 ≤ xs.length
  · rw [Nat.min_eq_left h, List.take_of_length_le (by rw [List.length_drop]; omega)]
  · have : xs = [] := List.length_eq_zero_iff.mp (by omega)
    rw [this]
    rfl
theorem cut_take (xs : List V) (j : Nat) : cutV xs none (some (j : Int)) = xs.take j := by
  by_cases h : j ≤ xs.length
  · exact BC.cut_to xs rfl h
  · unfold cutV
    have e1 : HT.sIx xs.length 0 none = 0 := rfl
    rw [HT.sIx_nat, e1, List.drop_zero, Nat.sub_zero, Nat.min_eq_right (by omega), List.take_length, List.take_of_length_le (by omega)]
theorem GridN.get {H H' : Hp} {s : Addr} {G : Grid} (h : GridN H H' s G) {i : Nat} (hi : i < G.length) : ∃ p xs, H' s = some (.lst xs) ∧ xs.length = G.length ∧ xs[i]? = some (.ref p) ∧ H' p = some (.lst ((nz (row G i)).map V.int)) ∧ H p = none := by
  obtain ⟨_, ps, h1, h2, _, _, h3⟩ := h
  have hx : ps[i]? = some ps[i] := List.getElem?_eq_getElem (by omega)
  exact ⟨ps[i], _, h1, by rw [List.length_map]; exact h2, by rw [List.getElem?_map, hx]; rfl, (h3 i _ hx).2, (h3 i _ hx).1⟩
theorem GridN.lower {Hl H H' : Hp} {b s : Addr} {G : Grid} (h : GridN H H' s G) (f : Fx b Hl H) (hb : ∃ o, H b = some o) : GridN Hl H' s G := by
  obtain ⟨o, ho⟩ := hb
  obtain ⟨h0, ps, h1, h2, h4, h5, h3⟩ := h
  have nb : ∀ {x : Addr}, H x = none → x ≠ b := fun n e => by subst e; rw [ho] at n; cases n
  exact ⟨fx_none f h0 (nb h0), ps, h1, h2, h4, h5, fun i p q => ⟨fx_none f (h3 i p q).1 (nb (h3 i p q).1), (h3 i p q).2⟩⟩
theorem nd_at {l : List Addr} (h : l.Nodup) {i j : Nat} {x : Addr} (a : l[i]? = some x) (b : l[j]? = some x) : i = j := by
  obtain ⟨h1, h2⟩ := List.getElem?_eq_some_iff.mp a
  obtain ⟨h3, h4⟩ := List.getElem?_eq_some_iff.mp b
  have e1 := h.idxOf_getElem i h1
  have e2 := h.idxOf_getElem j h3
  rw [h2] at e1
  rw [h4] at e2
  exact e1.symm.trans e2
/-- kept of a list -/
theorem kept_nz (s : List Nat) (k : Nat → Bool) : kept s.length (fun i => k (s.getD i 0)) (fun i => V.int ((s.getD i 0 : Nat) : Int)) = (nz (s.filter k)).map V.int := by
  unfold kept nz
  have e : (List.range s.length).map (fun i => s.getD i 0) = s := by
    apply List.ext_getElem?
    intro j
    by_cases h : j < s.length
    · rw [List.getElem?_map, List.getElem?_range h, List.getElem?_eq_getElem h]
      show some (s.getD j 0) = _
      rw [List.getD_eq_getElem?_getD, List.getElem?_eq_getElem h]
      rfl
    · rw [List.getElem?_eq_none (by rw [List.length_map, List.length_range]; omega), List.getElem?_eq_none (by omega)]
  conv => rhs; rw [← e]
  rw [List.filter_map, List.map_map, List.map_map]
  rfl
theorem kept_rng (n : Nat) (k : Nat → Bool) : kept n k (fun i => V.int ((i : Nat) : Int)) = (nz ((List.range n).filter k)).map V.int := by
  unfold kept nz
  rw [List.map_map]
  rfl
/-- zip of lists of different lengths -/
theorem lc_zipM {K : PySem.W.Frag} {σ : L2.St} {H1 : Hp} {tt : TT} {te : TE} {vs : List Nat} {Dl : Addr} {Q : VK} {a b : Addr} {xs ys : List V} {j k : Nat} (n : Nat) (keep : Nat → Bool) (f : Nat → V) (hx : SqL K H1 a xs) (hy : SqL K H1 b ys) (h1 : n ≤ xs.length) (h2 : n ≤ ys.length) (h3 : n = xs.length ∨ n = ys.length) (hD : H1 Dl = none) (hn : n ≤ 100000)
    (hw : ∀ u v : V, wipe (((wipe σ vs).set j (some u)).set k (some v)) vs = wipe σ vs)
    (ht : ∀ i x y, xs[i]? = some x → ys[i]? = some y → Evl.EvT tt (((wipe σ vs).set j (some x)).set k (some y)) H1 (keep i))
    (he : ∀ i x y, xs[i]? = some x → ys[i]? = some y → keep i = true → Evl.Ev te (((wipe σ vs).set j (some x)).set k (some y)) H1 (f i))
    (hd : ∀ H', Evl.Ex H1 H' → H' Dl = some (.lst (kept n keep f)) → Q (.ref Dl) H') : LcG (Itz K a b) (gTup K 2 (gCons (gName j) (gCons (gName k) gNil))) tt te vs σ Dl H1 Q := by
  have gx : ∀ i, i < n → xs[i]? = some (xs.getD i .non) := fun i hi => by rw [List.getD_eq_getElem?_getD, List.getElem?_eq_getElem (by omega)]; rfl
  have gy : ∀ i, i < n → ys[i]? = some (ys.getD i .non) := fun i hi => by rw [List.getD_eq_getElem?_getD, List.getElem?_eq_getElem (by omega)]; rfl
  refine lc_pure n (fun i => ((wipe σ vs).set j (some (xs.getD i .non))).set k (some (ys.getD i .non))) keep f hD hn (fun H' e => ⟨xs, ys, Evl.ex_l e hx, Evl.ex_l e hy, by omega⟩)
    (fun i H' hi e => ⟨xs, ys, _, _, Evl.ex_l e hx, Evl.ex_l e hy, gx i hi, gy i hi⟩)
    (fun i H' x H'' QG hi e y q => ?_) (fun i hi => hw _ _) (fun i hi => ht i _ _ (gx i hi) (gy i hi)) (fun i hi => he i _ _ (gx i hi) (gy i hi)) hd
  obtain ⟨T, u, v, rfl, hT, rfl, hf, hf2⟩ := y
  have hu := hf xs (Evl.ex_l e hx)
  have hv := hf2 ys (Evl.ex_l e hy)
  have e1 : xs.getD i .non = u := by rw [List.getD_eq_getElem?_getD, hu]; rfl
  have e2 : ys.getD i .non = v := by rw [List.getD_eq_getElem?_getD, hv]; rfl
  refine g_two upd_same ?_
  have q2 := q (Evl.Ex.new hT)
  rw [e1, e2] at q2
  exact q2
end BC

set_option Elab.async false
set_option linter.all false
set_option maxRecDepth 100000
set_option maxHeartbeats 4000000
/-! own __len__, sorted(d.items()), comprehensions over pairs -/
namespace BC
open PySem PySem.Spec PyProof.Rows L2 Evl
section
variable {X : Cx} {CX : CXT} {k : Nat} {C f : Addr} {fd : FuncData} {ps : List Str} {sp : Sp} {E : XK}
/-- len(o), by the class's own __len__ -/
def rLenOwn (C : Addr) (sp : Sp) (E : XK) : List V → Hp → VK → Prop := fun xs H Q => ∃ a dx fs, xs = [.ref a] ∧ H a = some (.ins C dx fs) ∧ sp [.ref a] H (fun v H' => ∃ n : Int, v = .int n ∧ 0 ≤ n ∧ n < 2 ^ 63 ∧ Q (.int n) H') E
theorem call_lenOwn (hs : PySem.W.findIn X.K (.ref C) "__len__" = some (some (.ref f))) (hf : PySem.W.isFn X.K (.ref f) = true) (F : FnOk X.prog X.w X.K X.mg X.base CX k f fd ps sp) (hr : Room (k + 1) X.A) (hb : Binds X.K fd ps []) (hx : Passes CX X E) : CallR X (.builtin "len") (rLenOwn C sp E) := by
  intro pins s σ H xs us Q I r h
  obtain ⟨a, dx, fs, rfl, ea, h⟩ := h
  obtain ⟨u, rfl, ru⟩ := vals1 r
  obtain rfl : u = Value.ref a := ru
  obtain ⟨mA, O, _, _, _, _⟩ := ins_get I.hok ea
  obtain ⟨od, J, _⟩ := O.look
  obtain ⟨m, hF⟩ := I.fr
  have hl : ([Value.ref a] ++ ([] : List Value)).length = ps.length := by
    rw [← F.len _ _ _ _ h]
    rfl
  refine PySem.W.len_K hF I.ok.mod.kin J hs hf (wpAny_call ?_)
  refine codeAny_mono (F.run X.A.in1 X.stack s H ⟨[.ref a], []⟩ [.ref a] [.ref a] _ E hr.in1 I.env0.in1 (hb _ [.ref a] I.kIn hl) (.cons rfl .nil) h) fun r s' hq => ?_
  cases r with
  | error er => exact hx pins σ H s er s' I hq
  | ok fl =>
    cases fl with
    | ret u =>
      obtain ⟨v, H', I3, rv, n, rfl, n0, n1, q⟩ := I.after hq
      obtain ⟨t, rfl⟩ := rv
      exact ⟨⟨n0, n1⟩, .int n, H', I3.tok _, ⟨_, rfl⟩, q⟩
    | next => exact False.elim hq
    | brk => exact False.elim hq
    | cont => exact False.elim hq
end
/-! ### sorted(d.items()), numbers by numbers -/
def PairAt (H : Hp) (t : Addr) (q : Int × Int) : Prop := H t = some (.tup [.int q.1, .int q.2])
def itK (q : Int × Int) : Key × V := (Sum.inl q.1, .int q.2)
def leP (a b : Int × Int) : Prop := a.1 < b.1 ∨ (a.1 = b.1 ∧ a.2 ≤ b.2)
open L2.DX
/-- d.items() of a dict of numbers or texts -/
def rItems : V → List V → Hp → VK → Prop := fun x xs H Q => ∃ (a : Addr) (kvs : List (Key × V)), x = .ref a ∧ xs = [] ∧ H a = some (.dK kvs) ∧ ∀ p, H p = none → Q (.ref p) (upd H p (itemsO p a))
def rSortIt : List V → Hp → VK → Prop := fun xs H Q => ∃ (v d : Addr) (qs : List (Int × Int)), xs = [.ref v] ∧ H v = some (itemsO v d) ∧ H d = some (.dK (qs.map itK)) ∧
  ∀ (H' : Hp) (p : Addr) (ts : List Addr) (rs : List (Int × Int)), Ex H H' → H p = none → H' p = some (.lst (ts.map V.ref)) → rs.Perm qs → rs.Pairwise leP → ts.length = rs.length → (∀ i t, ts[i]? = some t → H t = none ∧ PairAt H' t (rs.getD i (0, 0))) → Q (.ref p) H'
theorem pairs_get {κ : Type} [DecidableEq κ] {P : Program} {w : World} {knd : KeyKind P w κ} {es : List DictEntry} {vs : List (κ × Value)} (h : Pairs knd es vs) : ∀ {j : Nat} {en : DictEntry}, es[j]? = some en → ∃ kv, vs[j]? = some kv ∧ knd.is kv.1 en.key = true ∧ en.val = kv.2 := by
  induction h with
  | nil => intro j en e; simp at e
  | @cons e kv es kvs h1 h2 _ ih =>
    intro j en he
    cases j with
    | zero =>
      simp at he
      subst he
      exact ⟨kv, by simp, h1, h2⟩
    | succ j =>
      simp only [List.getElem?_cons_succ] at he ⊢
      exact ih he
section
variable {X : Cx}
theorem mt_items : MtR X "dict.items" rItems := by
  intro pins s σ H x xs v us Q I rx rxs h
  obtain ⟨a, kvs, rfl, rfl, ha, q⟩ := h
  cases rx
  cases rxs
  obtain ⟨hz, hd0, vs, kv, o, es, ep, ho, hx, hdat, _⟩ := dk_of I.hok ha
  refine DT.callItems (es := es) (ep := ep) hd0 ⟨o, ho, hx, hdat⟩ ?_
  have hf : H s.heap.objs.size = none := I.hok.fresh (Nat.le_refl _)
  exact ⟨.ref s.heap.objs.size, upd H s.heap.objs.size (itemsO s.heap.objs.size a), I.laid (t' := s.toks) (fun b u e => Heap.get?_push_of_some _ e) (Nat.le_refl _) (itemsO_ok (Heap.get?_push_size _ rfl)), rfl, q _ hf⟩
def adr : Value → Addr
  | .ref b => b
  | _ => 0
theorem cr_sortIt (hc : X.calm = true) : CallR X (.builtin "sorted") rSortIt := by
  intro pins s σ H xs us Q I r h
  obtain ⟨p, a, qs, rfl, hp, ha, q⟩ := h
  obtain rfl := Vals.ref1 r
  have view : s.heap.IsItemsView p a := (show ObjOk X.prog X.w H s.heap p (itemsO p a) from I.hok p _ hp).1
  obtain ⟨hz, hd0, vs, kv, o, es, ep, ho, hx, hdat, hks, prs, hn⟩ := dk_of I.hok ha
  rw [List.length_map] at hz
  have l1 : (qs.map itK).length = vs.length := Paired.length kv
  rw [List.length_map] at l1
  have l2 : es.size = vs.length := by rw [← prs.length, Array.length_toList]
  refine DT.sortedI (es := es) (ep := ep) (I.ok.hd hc) view ⟨o, ho, hx, hdat⟩ (by omega) fun h' tk as hk hlt hl hG => ?_
  have lak : as.length = qs.length := by omega
  have nd : as.Nodup := List.Pairwise.imp (fun h => Nat.ne_of_lt h) hG.rise
  have pr : ∀ (j : Nat) (b : Addr), as[j]? = some b → ∃ (g : Int × Int) (t u : Tok), qs[j]? = some g ∧ h'.get? b = some { cls := .type "tuple", data := .seq #[Value.int g.1 t, Value.int g.2 u] } := by
    intro j b hj
    obtain ⟨en, he, hg⟩ := hG.pairs j b hj
    have he' : es.toList[j]? = some en := by rw [Array.getElem?_toList]; exact he
    obtain ⟨kv0, h1, h2, h3⟩ := pairs_get prs he'
    have hjl : j < qs.length := by have := (List.getElem?_eq_some_iff.mp hj).1; omega
    have hq : qs[j]? = some qs[j] := List.getElem?_eq_getElem hjl
    obtain ⟨u, hu, ru⟩ := kv_get kv (i := j) (k := Sum.inl qs[j].1) (v := .int qs[j].2) (by rw [List.getElem?_map, hq]; rfl)
    rw [h1] at hu
    cases hu
    obtain ⟨tk1, hk1⟩ : RelV (kV (Sum.inl qs[j].1)) en.key := relV_key (show keyIs (Sum.inl qs[j].1) en.key = true from h2)
    obtain ⟨tk2, hk2⟩ := ru
    refine ⟨qs[j], tk1, tk2, hq, ?_⟩
    rw [hg, h3, hk2]
    have : en.key = Value.int qs[j].1 tk1 := hk1
    rw [this]
  have hob : (h'.push { cls := .type "list", data := .seq (as.map Value.ref).toArray }).get? h'.objs.size = some (seqObj "list" (as.map Value.ref).toArray 0) := Heap.get?_push_size _ rfl
  have kb : ∀ b o, s.heap.get? b = some o → (h'.push { cls := .type "list", data := .seq (as.map Value.ref).toArray }).get? b = some o := fun b o e => Heap.get?_push_of_some _ (hk b o e)
  have ne0 : ∀ b o, h'.get? b = some o → b ≠ h'.objs.size := fun b o e => Nat.ne_of_lt (Heap.lt_size e)
  generalize hh2 : h'.push { cls := .type "list", data := .seq (as.map Value.ref).toArray } = h2 at hob kb ⊢
  have ka : ∀ b o, h'.get? b = some o → h2.get? b = some o := fun b o e => by rw [← hh2]; exact Heap.get?_push_of_some _ e
  let kf : Value → Int × Int := fun u => qs.getD (as.idxOf (adr u)) (0, 0)
  have kfa : ∀ (j : Nat) (b : Addr), as[j]? = some b → kf (.ref b) = qs.getD j (0, 0) := fun j b hj => by
    obtain ⟨hjl, hjb⟩ := List.getElem?_eq_some_iff.mp hj
    show qs.getD (as.idxOf b) (0, 0) = _
    rw [← hjb, nd.idxOf_getElem j hjl]
  have isp : ∀ v ∈ as.map Value.ref, Srt.IsPair h2 v (kf v).1 (kf v).2 := fun v hv => by
    obtain ⟨b, hb, rfl⟩ := List.mem_map.mp hv
    obtain ⟨j, hj⟩ := List.mem_iff_getElem?.mp hb
    obtain ⟨g, t, u, hg, hob⟩ := pr j b hj
    rw [kfa j b hj, List.getD_eq_getElem?_getD, hg]
    exact ⟨b, _, t, u, 0, rfl, ka _ _ hob, rfl, rfl⟩
  refine wpAny_call_entry PyProof.Rows.slot_list_sort ⟨_, hob, rfl⟩ PyProof.Rows.entry_list_sort
    (SrtO.list_sort_ord (s := { s with heap := h2, toks := tk }) (SrtO.swo_lex kf) hob (by rw [List.length_map]; omega) (fun h2' => SrtO.pairs_sortableO (by omega) isp fun o e => ?_) fun out h1 h2' => ⟨.none, rfl, ?_⟩) (PyProof.Rows.args_list_sort _)
  · have e' : some o = some (seqObj "list" (as.map Value.ref).toArray 0) := e.symm.trans hob
    cases e'
    intro c
    exact absurd (Value.type.inj c) (by decide)
  · show EP X pins σ Q (.ref h'.objs.size) { s with heap := sortedHeap h2 h'.objs.size (as.map Value.ref) out.toArray, toks := tk }
    have hperm := h2'.perm
    have outr : ∀ u ∈ out, ∃ b, b ∈ as ∧ u = Value.ref b := fun u hu => by
      obtain ⟨b, hb, e⟩ := List.mem_map.mp (hperm.mem_iff.mp hu)
      exact ⟨b, hb, e.symm⟩
    have hout : out = (out.map adr).map Value.ref := by
      rw [List.map_map]
      conv => lhs; rw [← List.map_id out]
      refine List.map_congr_left fun u hu => ?_
      obtain ⟨b, _, rfl⟩ := outr u hu
      rfl
    have tperm : (out.map adr).Perm as := by
      have := hperm.map adr
      rw [List.map_map] at this
      have e : as.map (adr ∘ Value.ref) = as := by
        conv => rhs; rw [← List.map_id as]
        exact List.map_congr_left fun b _ => rfl
      rw [e] at this
      exact this
    have kF : ∀ b o, b ≠ h'.objs.size → h2.get? b = some o → (sortedHeap h2 h'.objs.size (as.map Value.ref) out.toArray).get? b = some o := fun b o hb e => (PyProof.Rows.sortedHeap_old hb (Heap.lt_size e)).trans e
    have kS : ∀ b o, s.heap.get? b = some o → (sortedHeap h2 h'.objs.size (as.map Value.ref) out.toArray).get? b = some o := fun b o e => kF b o (ne0 _ _ (hk b o e)) (kb b o e)
    obtain ⟨eF, heF⟩ := PyProof.Rows.sortedHeap_at (vs := as.map Value.ref) (out := out.toArray) hob
    have I1 : Inv X pins σ H { s with heap := sortedHeap h2 h'.objs.size (as.map Value.ref) out.toArray, toks := tk } := I.kept (t' := tk) kS
    have hn0 : H h'.objs.size = none := I.hok.fresh (Nat.le_of_lt hlt)
    have lout : (out.map adr).length = qs.length := by rw [tperm.length_eq, lak]
    have rv : Vals ((out.map adr).map V.ref) out := by
      conv => rhs; rw [hout]
      exact LiI.vals_refs _
    have I2 : Inv X pins σ (upd H h'.objs.size (.lst ((out.map adr).map V.ref))) { s with heap := sortedHeap h2 h'.objs.size (as.map Value.ref) out.toArray, toks := tk } :=
      I1.take (h' := sortedHeap h2 h'.objs.size (as.map Value.ref) out.toArray) (t' := tk) (fun b ob _ e => e) (I.fpOk (Nat.le_of_lt hlt) hn0) ⟨by rw [List.length_map, lout]; omega, out, eF, rv, heF⟩
    obtain ⟨H2, I3, g, qt⟩ := takeT (P := fun b vs => ∃ (j : Nat) (g : Int × Int), as[j]? = some b ∧ qs[j]? = some g ∧ vs = [.int g.1, .int g.2]) I as _ I2 nd fun b hb => by
      obtain ⟨j, hj⟩ := List.mem_iff_getElem?.mp hb
      obtain ⟨g, t, u, hg, hob⟩ := pr j b hj
      have hbl : s.heap.objs.size ≤ b := Nat.le_of_lt (hG.above b hb)
      refine ⟨hbl, ?_, [.int g.1, .int g.2], ⟨j, g, hj, hg, rfl⟩, fun H3 => ⟨(by rw [sizeLine_eq]; show 2 ≤ 16777216; omega), [Value.int g.1 t, Value.int g.2 u], .cons ⟨t, rfl⟩ (.cons ⟨u, rfl⟩ .nil), ⟨_, kF _ _ (ne0 _ _ hob) (ka _ _ hob), rfl, 0, rfl⟩⟩⟩
      rw [upd_ne (ne0 _ _ hob)]
      exact I.hok.fresh hbl
    have gr : ∀ b o, H b = some o → H2 b = some o := fun b o e => g b o (by rw [upd_ne (ne_of_none e hn0)]; exact e)
    refine ⟨.ref h'.objs.size, H2, I3, rfl, q H2 h'.objs.size (out.map adr) ((out.map adr).map fun b => kf (.ref b)) gr hn0 (g _ _ upd_same) ?_ ?_ (by simp only [List.length_map]) fun i t hi => ?_⟩
    · have e := tperm.map (fun b => kf (.ref b))
      have e2 : as.map (fun b => kf (.ref b)) = qs := by
        apply List.ext_getElem?
        intro j
        rw [List.getElem?_map]
        cases c : as[j]? with
        | none =>
          rw [List.getElem?_eq_none_iff] at c
          rw [List.getElem?_eq_none (by omega)]
          rfl
        | some b =>
          have hjl := (List.getElem?_eq_some_iff.mp c).1
          show some (kf (.ref b)) = _
          rw [kfa j b c, List.getD_eq_getElem?_getD, List.getElem?_eq_getElem (by omega)]
          rfl
      rw [e2] at e
      exact e
    · have hs := h1
      rw [hout] at hs
      unfold SrtO.Srtd at hs
      rw [List.pairwise_map] at hs
      rw [List.pairwise_map]
      refine hs.imp fun {x y} h => ?_
      have := SrtO.lexB_no.mp h
      unfold leP
      show (kf (.ref x)).1 < (kf (.ref y)).1 ∨ ((kf (.ref x)).1 = (kf (.ref y)).1 ∧ (kf (.ref x)).2 ≤ (kf (.ref y)).2)
      omega
    · have ta : t ∈ as := tperm.mem_iff.mp (List.mem_of_getElem? hi)
      obtain ⟨vs', ⟨j, g', j1, j2, ev⟩, hH⟩ := qt t ta
      refine ⟨I.hok.fresh (Nat.le_of_lt (hG.above t ta)), ?_⟩
      have e3 : ((out.map adr).map fun b => kf (.ref b)).getD i (0, 0) = g' := by
        rw [List.getD_eq_getElem?_getD, List.getElem?_map, hi]
        show kf (.ref t) = g'
        rw [kfa j t j1, List.getD_eq_getElem?_getD, j2]
        rfl
      unfold PairAt
      rw [e3, hH, ev]
end
/-! ### xs[:1] = ys -/
theorem bounds_head (n : Nat) : sliceBounds none (some 1) none n = (((0 : Nat) : Int), ((min 1 n : Nat) : Int), 1) := by
  unfold sliceBounds
  simp
  omega
section
variable {prog : Program} {w : World} {A : Around} {s : Shared} {E : Value → Shared → Prop}
theorem setItem_head {l b sl : Addr} {items new : Array Value} {n n2 : Nat} {vl vu : Value} {Q : Unit → Shared → Prop}
    (e : s.heap.get? l = some { cls := .type "list", data := .seq items n }) (e2 : s.heap.get? b = some { cls := .type "list", data := .seq new n2 }) (hne : l ≠ b)
    (hs : s.heap.IsSliceOf sl vl vu .none) (pl : IsPart vl none) (pu : IsPart vu (some 1))
    (hsz : items.size + new.size ≤ sizeLine) (h : Q () { s with heap := s.heap.update l (Obj.mapSeq fun xs => xs.extract 0 0 ++ new ++ xs.extract (min 1 items.size) xs.size) }) :
    wpAny (model prog w) A (setItem (.ref l) (.ref sl) (.ref b)) Q E s := by
  have hl : s.heap.IsList l items := PySem.IsL.isList e
  have hb : s.heap.IsList b new := PySem.IsL.isList e2
  obtain ⟨os, hos, hcs, hds⟩ := id hs
  have hTs : s.TypeIs (.ref sl) "slice" := ⟨os, hos, hcs⟩
  have hstep : ¬ ((rawPart none == rawInt 0) = true) := Bool.false_ne_true
  have hsame : Builtin.List.listSameRef (.ref l) (.ref b) = false := by
    unfold Builtin.List.listSameRef
    exact beq_eq_false_iff_ne.mpr hne
  have hmax : (max ((0 : Nat) : Int) ((min 1 items.size : Nat) : Int)).toNat = min 1 items.size := by omega
  have hz' : ((fun xs : Array Value => xs.extract 0 0 ++ new ++ xs.extract (min 1 items.size) xs.size) items).size ≤ sizeLine + 1 := by
    simp only [Array.size_append, Array.size_extract]
    omega
  unfold setItem
  try with_reducible refine wpAny_holding ?_
  first | refine wpAny_bind (wpAny_pure ?_) | skip
  refine wpAny_bind (wpAny_sequenceKey hl.typeIs (by decide) ?_)
  refine wpAny_bind (wpAny_callSpecial?_slot (name := Str.ofString "__setitem__") hl.typeIs slot_list_setitem
    (wpAny_call_entry slot_list_setitem hl.typeIs entry_list_setitem ?_ (args_list_setitem _ _ _)))
  show wpAny _ _ (Builtin.List.listSubscript? (.ref sl) >>= _) _ _ s
  refine wpAny_bind ?_
  unfold Builtin.List.listSubscript?
  refine wpAny_bind (wpAny_specialOf hTs slice_no_index ?_)
  simp only [Option.isNone_none, if_true]
  refine wpAny_pure ?_
  show wpAny _ _ (typeOf (.ref sl) >>= _) _ _ s
  refine wpAny_bind (wpAny_typeOf hTs ?_)
  first
    | rw [if_neg (by decide)]
    | refine PySem.W.KFB.if_not (by decide) ?_
  rw [listSliceParts_eq]
  refine wpAny_bind (wpAny_bind (wpAny_field hos hds (x := .none) rfl (wpAny_bind (wpAny_listPart .none ?_))))
  rw [if_neg hstep]
  refine wpAny_bind (wpAny_field hos hds (x := vl) rfl (wpAny_bind (wpAny_listPart pl ?_)))
  refine wpAny_bind (wpAny_field hos hds (x := vu) rfl (wpAny_bind (wpAny_listPart pu (wpAny_pure ?_))))
  first
    | simp only [hsame, Bool.false_eq_true, if_false]
    | refine PySem.W.KFB.if_not hsame ?_
    | (dsimp only
       rw [if_neg (by rw [hsame]; exact Bool.false_ne_true)])
  refine wpAny_bind (m := Builtin.List.listAllItems (.ref b) "must assign iterable to extended slice") ?_
  unfold Builtin.List.listAllItems
  refine wpAny_bind (wpAny_typeOf hb.typeIs ?_)
  first
    | refine PySem.W.KFB.if_so (by decide) ?_
    | rw [if_pos (by decide)]
    | simp only [beq_self_eq_true, Bool.true_or, if_true]
  unfold Builtin.List.listItems
  refine wpAny_bind (wpAny_seqItems e2 rfl (wpAny_pure ?_))
  refine wpAny_bind (wpAny_bind (wpAny_seqItems e rfl (wpAny_pure ?_)))
  refine wpAny_bind (wpAny_of_eq ((sliceIndices_raw none (some 1) none items.size (by simp)).trans (congrArg (pure : Int × Int × Int → Sem (Int × Int × Int)) (bounds_head items.size))) ?_)
  show wpAny _ _ (if ((1 : Int) == 1) = true then _ else _) _ _ s
  rw [if_pos (by decide)]
  refine wpAny_bind (wpAny_rule ?_)
  first
    | simp only [notLongL hsz, Bool.false_eq_true, if_false]
    | refine PySem.W.KFB.if_not (notLongL hsz) ?_
  first | refine wpAny_bind (wpAny_pure ?_) | skip
  show wpAny _ _ (updateSeq l (fun xs => xs.extract 0 ((0 : Nat) : Int).toNat ++ new ++ xs.extract (max ((0 : Nat) : Int) ((min 1 items.size : Nat) : Int)).toNat xs.size) >>= _) _ _ s
  rw [hmax, Int.toNat_natCast]
  refine wpAny_bind (wpAny_updateSeq (hz := Nat.le_trans (Nat.le_add_right _ _) hsz) (_hz' := hz') e rfl ?_)
  refine wpAny_bind (wpAny_letGo ?_)
  first
    | exact wpAny_bind (wpAny_pure (wpAny_pure ⟨.none, rfl, wpAny_pure h⟩))
    | exact wpAny_pure ⟨.none, rfl, wpAny_pure h⟩
end
section
variable {X : Cx} {o e : Expr} {to : TE} {p2 pos : Pos}
/-- o[:1] = v, both lists -/
def gHead (to : TE) : TG := fun v σ H QG => to σ H fun x H1 => ∃ a b xs ys, x = .ref a ∧ v = .ref b ∧ a ≠ b ∧ H1 a = some (.lst xs) ∧ H1 b = some (.lst ys) ∧ xs.length + ys.length ≤ sizeLine ∧ QG σ (upd H1 a (.lst (ys ++ xs.drop 1)))
theorem set_head {pins : List (Addr × Obj)} {s : Shared} {σ : L2.St} {H : Hp} {l b sl : Addr} {xs ys : List V} {vl vu : Value} {Q : Unit → Shared → Prop} (I : Inv X pins σ H s)
    (hH : H l = some (.lst xs)) (hB : H b = some (.lst ys)) (hne : l ≠ b) (hs : s.heap.IsSliceOf sl vl vu .none) (pl : IsPart vl none) (pu : IsPart vu (some 1))
    (hz : xs.length + ys.length ≤ sizeLine) (h : ∀ s', Inv X pins σ (upd H l (.lst (ys ++ xs.drop 1))) s' → Q () s') :
    wpAny (model X.prog X.w) X.A (setItem (.ref l) (.ref sl) (.ref b)) Q X.xe s := by
  obtain ⟨z, its, n, r, hl, e⟩ := I.lstM hH
  obtain ⟨z2, its2, n2, r2, hl2, e2⟩ := I.lstM hB
  refine setItem_head e e2 hne hs pl pu (by rw [List.size_toArray, List.size_toArray]; omega) (h _ ?_)
  have ed : ∀ {α : Type} (zs : List α), zs.drop (min 1 zs.length) = zs.drop 1 := fun zs => by
    cases zs with
    | nil => rfl
    | cons a zs => rw [List.length_cons, show min 1 (zs.length + 1) = 1 by omega]
  have er : ys ++ xs.drop 1 = xs.take 0 ++ ys ++ xs.drop (min 1 xs.length) := by rw [ed, List.take_zero, List.nil_append]
  rw [er]
  refine I.lset (its' := its.take 0 ++ its2 ++ its.drop (min 1 its.length)) (t' := s.toks) hH e ?_ (Vals.append (Vals.append (r.take _) r2) (by rw [r.length]; exact r.drop _)) ?_
  · rw [List.size_toArray]
    exact splice_eq its its2 0 (min 1 its.length)
  · rw [List.length_append, List.length_append, List.length_take, List.length_drop]
    omega
theorem pg_head {k1 : Nat} {p3 : Pos} (ho : PE X o to)
    (ha0 : ∀ v, assign (.Subscript o (.Slice none (some (.Constant (.int 1) k1 p3)) none p2) pos) X.env v = (do
      let ov ← holding [v] (eval o X.env)
      let iv ← holding [v, ov] (eval (.Slice none (some (.Constant (.int 1) k1 p3)) none p2) X.env)
      standAt pos
      holding [v, ov, iv] (setItem ov iv v)
      release [iv, v, ov] []) := by intro _; rfl) : PG X (.Subscript o (.Slice none (some (.Constant (.int 1) k1 p3)) none p2) pos) (gHead to) := by
  refine ⟨fun pins s σ H v u Q I r h => ?_⟩
  rw [ha0]
  refine wpAny_bind (wpAny_holding (thn (ho.run pins s σ H _ I h) fun ov s1 ⟨x, H1, I1, r1, q1⟩ => ?_))
  obtain ⟨a, b, xs, ys, rfl, rfl, hne, ha, hb, hz, q⟩ := q1
  cases r1
  cases r
  refine wpAny_bind (wpAny_holding ?_)
  refine wpAny_Slice ?_
  rw [evalPart_none]
  refine wpAny_pure ?_
  rw [evalPart_some]
  refine thn ((pe_int (X := X) (i := 1)).run pins s1 σ H1 (fun v H' => v = .int 1 ∧ H' = H1) I1 ⟨rfl, rfl⟩) fun u s2 ⟨x, H2, I2, r2, ex, eH⟩ => ?_
  subst ex
  subst eH
  obtain ⟨t, rfl⟩ := r2
  refine wpAny_pure ?_
  have I4 : Inv X pins σ H2 { s2 with heap := s2.heap.push { cls := .type "slice", data := .fields #[.none, .int 1 t, .none] } } := I2.kept (t' := s2.toks) fun b ob q => Heap.get?_push_of_some _ q
  refine wpAny_bind (wpAny_standAt (wpAny_bind (wpAny_holding ?_)))
  refine set_head I4 ha hb hne (Heap.IsSliceOf.new ..) .none (.int _ _) hz fun s' I5 => ?_
  exact wpAny_release ⟨σ, _, I5, q⟩
theorem x_ghead {σ : L2.St} {H : Hp} {v : V} {QG : L2.St → Hp → Prop} : gHead to v σ H QG = to σ H fun x H1 => ∃ a b xs ys, x = .ref a ∧ v = .ref b ∧ a ≠ b ∧ H1 a = some (.lst xs) ∧ H1 b = some (.lst ys) ∧ xs.length + ys.length ≤ sizeLine ∧ QG σ (upd H1 a (.lst (ys ++ xs.drop 1))) := rfl
end
/-! ### comprehensions over pairs -/
section
variable {K : PySem.W.Frag} {σ : L2.St} {H1 : Hp} {g : TG} {tt : TT} {te : TE} {vs : List Nat} {Dl : Addr} {Q : VK}
/-- the items of a list or a tuple are pairs -/
theorem lc_pairs {a : Addr} {J : It} {ts : List Addr} {u v : Nat → V} {j k : Nat} (hJ : (J = Itl K a ∧ SqL K H1 a (ts.map V.ref)) ∨ (J = Itt K a ∧ SqT K H1 a (ts.map V.ref))) (hp : ∀ i t, ts[i]? = some t → H1 t = some (.tup [u i, v i])) (keep : Nat → Bool) (f : Nat → V) (hD : H1 Dl = none) (hn : ts.length ≤ 100000)
    (hw : ∀ x y : V, wipe (((wipe σ vs).set j (some x)).set k (some y)) vs = wipe σ vs)
    (ht : ∀ i, i < ts.length → Evl.EvT tt (((wipe σ vs).set j (some (u i))).set k (some (v i))) H1 (keep i))
    (he : ∀ i, i < ts.length → keep i = true → Evl.Ev te (((wipe σ vs).set j (some (u i))).set k (some (v i))) H1 (f i))
    (hd : ∀ H', Evl.Ex H1 H' → H' Dl = some (.lst (kept ts.length keep f)) → Q (.ref Dl) H') : LcG J (gTup K 2 (gCons (gName j) (gCons (gName k) gNil))) tt te vs σ Dl H1 Q := by
  have gt : ∀ i, i < ts.length → ts[i]? = some (ts.getD i 0) := fun i hi => by rw [List.getD_eq_getElem?_getD, List.getElem?_eq_getElem hi]; rfl
  have fin : ∀ (i : Nat) (H' : Hp) (x : V) (QG : L2.St → Hp → Prop), i < ts.length → Evl.Ex H1 H' → (ts.map V.ref)[i]? = some x → (Evl.Ex H' H' → QG (((wipe σ vs).set j (some (u i))).set k (some (v i))) H') → gTup K 2 (gCons (gName j) (gCons (gName k) gNil)) x (wipe σ vs) H' QG := fun i H' x QG hi e hx q => by
    rw [List.getElem?_map, gt i hi] at hx
    cases hx
    exact g_two (e _ _ (hp i _ (gt i hi))) (q (Ex.refl _))
  rcases hJ with ⟨rfl, hx⟩ | ⟨rfl, hx⟩
  · refine lc_pure ts.length (fun i => ((wipe σ vs).set j (some (u i))).set k (some (v i))) keep f hD hn (fun H' e => ⟨_, Evl.ex_l e hx, by rw [List.length_map]; exact Nat.le_refl _⟩) (fun i H' hi e => ⟨_, _, Evl.ex_l e hx, by rw [List.getElem?_map, gt i hi]; rfl⟩)
      (fun i H' x H'' QG hi e y q => ?_) (fun i hi => hw _ _) ht he hd
    obtain ⟨rfl, hf⟩ := y
    exact fin i _ _ QG hi e (hf _ (Evl.ex_l e hx)) q
  · refine lc_pure ts.length (fun i => ((wipe σ vs).set j (some (u i))).set k (some (v i))) keep f hD hn (fun H' e => ⟨_, Evl.ex_t e hx, by rw [List.length_map]; exact Nat.le_refl _⟩) (fun i H' hi e => ⟨_, _, Evl.ex_t e hx, by rw [List.getElem?_map, gt i hi]; rfl⟩)
      (fun i H' x H'' QG hi e y q => ?_) (fun i hi => hw _ _) ht he hd
    obtain ⟨rfl, hf⟩ := y
    exact fin i _ _ QG hi e (hf _ (Evl.ex_t e hx)) q
/-- zip of two lists, the second not longer -/
theorem lc_zipS {a b : Addr} {xs ys : List V} {j k : Nat} (keep : Nat → Bool) (f : Nat → V) (hx : SqL K H1 a xs) (hy : SqL K H1 b ys) (he0 : ys.length ≤ xs.length) (hD : H1 Dl = none) (hn : ys.length ≤ 100000)
    (hw : ∀ u v : V, wipe (((wipe σ vs).set j (some u)).set k (some v)) vs = wipe σ vs)
    (ht : ∀ i x y, xs[i]? = some x → ys[i]? = some y → Evl.EvT tt (((wipe σ vs).set j (some x)).set k (some y)) H1 (keep i))
    (he : ∀ i x y, xs[i]? = some x → ys[i]? = some y → keep i = true → Evl.Ev te (((wipe σ vs).set j (some x)).set k (some y)) H1 (f i))
    (hd : ∀ H', Evl.Ex H1 H' → H' Dl = some (.lst (kept ys.length keep f)) → Q (.ref Dl) H') : LcG (Itz K a b) (gTup K 2 (gCons (gName j) (gCons (gName k) gNil))) tt te vs σ Dl H1 Q := by
  have gx : ∀ i, i < ys.length → xs[i]? = some (xs.getD i .non) := fun i hi => by rw [List.getD_eq_getElem?_getD, List.getElem?_eq_getElem (by omega)]; rfl
  have gy : ∀ i, i < ys.length → ys[i]? = some (ys.getD i .non) := fun i hi => by rw [List.getD_eq_getElem?_getD, List.getElem?_eq_getElem hi]; rfl
  refine lc_pure ys.length (fun i => ((wipe σ vs).set j (some (xs.getD i .non))).set k (some (ys.getD i .non))) keep f hD hn (fun H' e => ⟨xs, ys, Evl.ex_l e hx, Evl.ex_l e hy, ?_⟩)
    (fun i H' hi e => ⟨xs, ys, _, _, Evl.ex_l e hx, Evl.ex_l e hy, gx i hi, gy i hi⟩)
    (fun i H' x H'' QG hi e y q => ?_) (fun i hi => hw _ _) (fun i hi => ht i _ _ (gx i hi) (gy i hi)) (fun i hi => he i _ _ (gx i hi) (gy i hi)) hd
  · first | exact .inr (Nat.le_refl _) | exact .inr ⟨by omega, Nat.le_refl _⟩ | (simp; omega)
  obtain ⟨T, u, v, rfl, hT, rfl, hf, hf2⟩ := y
  have hu := hf xs (Evl.ex_l e hx)
  have hv := hf2 ys (Evl.ex_l e hy)
  have e1 : xs.getD i .non = u := by rw [List.getD_eq_getElem?_getD, hu]; rfl
  have e2 : ys.getD i .non = v := by rw [List.getD_eq_getElem?_getD, hv]; rfl
  refine g_two upd_same ?_
  have q2 := q (Evl.Ex.new hT)
  rw [e1, e2] at q2
  exact q2
end
/-! ### dict(pairs), sorted(d) -/
section
variable {K : PySem.W.Frag}
theorem putK_end {kvs : List (Key × V)} {k : Key} {v : V} (h : k ∉ kvs.map (·.1)) : putK kvs k v = kvs ++ [(k, v)] := by
  unfold putK
  rw [if_neg]
  intro e
  obtain ⟨p, hp, e⟩ := List.any_eq_true.mp e
  exact h (List.mem_map.mpr ⟨p, hp, of_decide_eq_true e⟩)
theorem mergeK_nodup : ∀ (more kvs : List (Key × V)), ((kvs ++ more).map (·.1)).Nodup → mergeK kvs more = kvs ++ more
  | [], kvs, _ => by rw [List.append_nil]; rfl
  | p :: more, kvs, h => by
    have hn : p.1 ∉ kvs.map (·.1) := fun hm => by
      rw [List.map_append, List.nodup_append] at h
      exact h.2.2 p.1 hm p.1 (by simp) rfl
    show mergeK (putK kvs p.1 p.2) more = _
    rw [putK_end hn, mergeK_nodup more _ (by rw [List.append_assoc]; exact h)]
    simp
theorem nodup_itK {qs : List (Int × Int)} (h : (qs.map (·.1)).Nodup) : ((qs.map itK).map (·.1)).Nodup := by
  have e : (qs.map itK).map (·.1) = (qs.map (·.1)).map Sum.inl := by rw [List.map_map, List.map_map]; rfl
  rw [e, List.nodup_iff_pairwise_ne, List.pairwise_map]
  exact h.imp fun h e => h (Sum.inl.inj e)
/-- what the list of pairs at a reads -/
def PairsAt (K : PySem.W.Frag) (H : Hp) (a : Addr) (ts : List Addr) (qs : List (Int × Int)) : Prop := SqL K H a (ts.map V.ref) ∧ ts.length = qs.length ∧ ∀ i t, ts[i]? = some t → PairAt H t (qs.getD i (0, 0))
theorem PairsAt.ex {H H' : Hp} {a : Addr} {ts : List Addr} {qs : List (Int × Int)} (h : PairsAt K H a ts qs) (e : Ex H H') : PairsAt K H' a ts qs := ⟨ex_l e h.1, h.2.1, fun i t hi => e _ _ (h.2.2 i t hi)⟩
def rDictI (K : PySem.W.Frag) : List V → Hp → VK → Prop := fun xs H Q => ∃ (a : Addr) (ts : List Addr) (qs : List (Int × Int)), xs = [.ref a] ∧ PairsAt K H a ts qs ∧ (qs.map (·.1)).Nodup ∧ ∀ p, H p = none → Q (.ref p) (upd H p (.dK (qs.map itK)))
theorem paired_of {H : Hp} : ∀ {ts : List Addr} {qs : List (Int × Int)}, ts.length = qs.length → (∀ (i : Nat) t, ts[i]? = some t → PairAt H t (qs.getD i (0, 0))) → Paired (fun p kv => SqT K H p [kV kv.1, kv.2]) ts (qs.map itK)
  | [], [], _, _ => .nil
  | [], _ :: _, h, _ => by simp at h
  | _ :: _, [], h, _ => by simp at h
  | t :: ts, q :: qs, h, hp => .cons (.inl (.inl (hp 0 t rfl))) (paired_of (by simpa using h) fun i u hi => by
    have := hp (i + 1) u (by simpa using hi)
    simpa using this)
theorem k_dictP {X : Cx} (hK : X.K = K) (hc : X.calm = true) : CallR X (.type "dict") (rDictI K) := by
  subst hK
  intro pins s σ H xs us Q I r h
  obtain ⟨a, ts, qs, rfl, ⟨hs, hl, hp⟩, nd, q⟩ := h
  refine call_dictP hc pins s σ H _ us Q I r ⟨a, ts, qs.map itK, rfl, hs, paired_of hl hp, fun p np => ?_⟩
  have e : mergeK [] (qs.map itK) = qs.map itK := by rw [mergeK_nodup _ _ (by simpa using nodup_itK nd)]; rfl
  rw [e]
  exact q p np
def rSortDI : List V → Hp → VK → Prop := fun xs H Q => ∃ (a : Addr) (kvs : List (Key × V)) (ks : List Int), xs = [.ref a] ∧ Rd H a (.dK kvs) ∧ kvs.map (·.1) = ks.map Sum.inl ∧ ks.length < 64 ∧
    ∀ (ys : List Int) (p : Addr), ys.Perm ks → ys.Pairwise (· ≤ ·) → H p = none → Q (.ref p) (upd H p (.lst (ys.map V.int)))
theorem cr_sortDI {X : Cx} (hc : X.calm = true) : CallR X (.builtin "sorted") rSortDI := call_sortedDI hc
theorem tyD {H : Hp} {p : Addr} {kvs : List (Key × V)} (h : H p = some (.dK kvs)) : tyV K "dict" (.ref p) H := .inr (.inr (.inl ⟨rfl, .inl ⟨kvs, h⟩⟩))
theorem valV_itK {qs : List (Int × Int)} (nd : (qs.map (·.1)).Nodup) {x y : Int} (h : (x, y) ∈ qs) : valV (qs.map itK) (Sum.inl x) = some (.int y) := by
  induction qs with
  | nil => exact (List.not_mem_nil h).elim
  | cons q qs ih =>
    rw [List.map_cons, List.nodup_cons] at nd
    rw [List.map_cons]
    rcases List.mem_cons.mp h with e | h
    · subst e
      exact valV_pos rfl
    · have ne : q.1 ≠ x := fun e => nd.1 (List.mem_map.mpr ⟨(x, y), h, e.symm⟩)
      rw [valV_neg (by show ¬ (Sum.inl q.1 : Key) = Sum.inl x; exact fun e => ne (Sum.inl.inj e))]
      exact ih nd.2 h
theorem valV_itK_none {qs : List (Int × Int)} {x : Int} (h : x ∉ qs.map (·.1)) : valV (qs.map itK) (Sum.inl x) = none := by
  induction qs with
  | nil => rfl
  | cons q qs ih =>
    rw [List.map_cons, List.mem_cons, not_or] at h
    rw [List.map_cons, valV_neg (by show ¬ (Sum.inl q.1 : Key) = Sum.inl x; exact fun e => h.1 (Sum.inl.inj e).symm)]
    exact ih h.2
end
/-! ### readings -/
section
variable {K : PySem.W.Frag} {σ : L2.St} {H : Hp} {Q : VK} {ta tv : TE} {a : TA} {D : Ends} {f : Str} {C : Addr} {sp : Sp} {dvs : List V} {E : XK}
theorem x_fld : tFld K ta f σ H Q = ta σ H (fun x H1 => ∃ a C dx fs v, x = .ref a ∧ H1 a = some (.ins C dx fs) ∧ Cls K C ∧ NoAttr K C f ∧ fs.lookup f = some v ∧ Q v H1) := rfl
theorem x_sfld : sFld K ta tv f D σ H = tv σ H (fun y H1 => ta σ H1 fun x H2 => ∃ a C dx fs, x = .ref a ∧ H2 a = some (.ins C dx fs) ∧ Cls K C ∧ NoAttr K C f ∧ fs.length < 1000 ∧ D.nx σ (upd H2 a (.ins C dx (putF f y fs)))) := rfl
theorem x_prop : tProp C sp dvs E ta σ H Q = ta σ H (fun x H1 => ∃ a dx fs, x = .ref a ∧ H1 a = some (.ins C dx fs) ∧ sp (.ref a :: dvs) H1 Q E) := rfl
theorem x_meth {m : Str} {t : TA} : tMeth C m sp dvs E ta t σ H Q = ta σ H (fun x H1 => ∃ a dx fs, x = .ref a ∧ H1 a = some (.ins C dx fs) ∧ fs.lookup m = none ∧ t σ H1 fun vs H2 => sp (x :: (vs ++ dvs)) H2 Q E) := rfl
theorem x_make : tMake C sp dvs E a σ H Q = a σ H (fun vs H1 => ∀ x dx, H1 x = none → H1 dx = none → dx ≠ x → sp (.ref x :: (vs ++ dvs)) (upd (upd H1 dx (.own x)) x (.ins C dx [])) (fun v H2 => v = .non ∧ Q (.ref x) H2) E) := rfl
theorem k_fld {X : Cx} {e : Expr} {pos : Pos} (hK : X.K = K) (he : PE X e ta) (hb : attributeBase e f X.env (eval e X.env) = eval e X.env) : PE X (.Attribute e f pos) (tFld K ta f) := by subst hK; exact pe_fld he hb
theorem k_sfld {X : Cx} {o value : Expr} {pos' pos : Pos} (hK : X.K = K) (ha : PE X o ta) (hv : PE X value tv) (hs : swapsWith value (some (.Attribute o f pos')) pos.line X.env = pure false) : PS X (.Assign [.Attribute o f pos'] value pos) (sFld K ta tv f) := by subst hK; exact ps_fld ha hv hs
def DcG (J : It) (g : TG) (tt : TT) (tk tv : TE) (vs : List Nat) (σ : L2.St) (D : Addr) (H1 : Hp) (Q : VK) : Prop := ∃ W : Nat → Nat → Hp → Prop, (∃ m, W 0 m (upd H1 D (.dK []))) ∧ ∀ i m H, W i m H →
  (J.stop i H ∧ Q (.ref D) H) ∨ (J.go i H ∧ ∃ Nx : Hp → Prop, (∀ H', Nx H' → ∃ m', m' < m ∧ W (i + 1) m' H') ∧ ∀ x H', J.yld i H x H' → g x (wipe σ vs) H' fun σ2 H2 => wipe σ2 vs = wipe σ vs ∧ tt σ2 H2 fun b H3 =>
    if b = true then tk σ2 H3 fun y H4 => tv σ2 H4 fun z H5 => ∃ kvs k, y = kV k ∧ H5 D = some (.dK kvs) ∧ kvs.length < sizeLine ∧ Nx (upd H5 D (.dK (putK kvs k z))) else Nx H3)
theorem x_dc {wi : TI} {g : TG} {tt : TT} {tk tv : TE} {vs : List Nat} : tDc wi g tt tk tv vs σ H Q = wi σ H (fun J H1 => ∀ D, H1 D = none → DcG J g tt tk tv vs σ D H1 Q) := rfl
theorem dcg_tup {a : Addr} {xs : List V} {g : TG} {tt : TT} {tk tv : TE} {vs : List Nat} {H1 : Hp} {D : Addr} (Pv : Nat → Hp → Prop) (h0 : Pv 0 (upd H1 D (.dK []))) (hl : ∀ i H, i ≤ xs.length → Pv i H → SqT K H a xs)
    (hs : ∀ i x H, xs[i]? = some x → Pv i H → g x (wipe σ vs) H fun σ2 H2 => wipe σ2 vs = wipe σ vs ∧ tt σ2 H2 fun b H3 =>
      if b = true then tk σ2 H3 fun y H4 => tv σ2 H4 fun z H5 => ∃ kvs k, y = kV k ∧ H5 D = some (.dK kvs) ∧ kvs.length < sizeLine ∧ Pv (i + 1) (upd H5 D (.dK (putK kvs k z))) else Pv (i + 1) H3) (hd : ∀ H, Pv xs.length H → Q (.ref D) H) : DcG (Itt K a) g tt tk tv vs σ D H1 Q := dc_tup (Qd := fun H => Q (.ref D) H) Pv h0 hl hs hd
end
theorem lg_zip {K : PySem.W.Frag} {a b : Addr} {xs ys : List V} {g : TG} {tb : TS} {D : Ends} {σ : L2.St} {H : Hp} (hl : xs.length = ys.length) (Pv : Nat → L2.St → Hp → Prop) (h0 : Pv 0 σ H) (hq : ∀ i σ H, Pv i σ H → SqL K H a xs ∧ SqL K H b ys)
    (hs : ∀ (i : Nat) (x y : V) (T : Addr) (σ : L2.St) (H : Hp), xs[i]? = some x → ys[i]? = some y → Pv i σ H → H T = none → g (.ref T) σ (upd H T (.tup [x, y])) fun σ2 H2 => tb { D with nx := Pv (i + 1), ct := Pv (i + 1), bk := D.nx } σ2 H2) (hd : ∀ σ H, Pv xs.length σ H → D.nx σ H) : LoopG (Itz K a b) g tb D σ H := RZ.for_zipL hl Pv h0 hq hs hd
/-! ### what comes behind each visit -/
def seconds (row : List Int) : List Int := row.drop 1 ++ row.drop (row.length - 1)
theorem cut_drop1 (row : List Int) : cutV (row.map V.int) (some 1) none = (row.drop 1).map V.int := by
    cases row with
    | nil => rfl
    | cons a r =>
      have e : HT.sIx ((a :: r).map V.int).length 0 (some 1) = 1 := by
        show (if (1 : Int) < 0 then ((1 : Int) + (((a :: r).map V.int).length : Int)).toNat else min (1 : Int).toNat ((a :: r).map V.int).length) = 1
        rw [if_neg (by omega), List.length_map, List.length_cons]
        show min 1 (r.length + 1) = 1
        omega
      unfold cutV
      rw [e, HT.sIx_none, List.map_drop, List.take_of_length_le (by rw [List.length_drop]; exact Nat.le_refl _)]
theorem cut_seconds (row : List Int) : cutV (row.map V.int) (some 1) none ++ cutV (row.map V.int) (some (-1)) none = (seconds row).map V.int := by
  have h1 : cutV (row.map V.int) (some 1) none = (row.drop 1).map V.int := by
    unfold cutV
    cases row with
    | nil => rfl
    | cons a r =>
      have e : HT.sIx ((a :: r).map V.int).length 0 (some 1) = 1 := by
        show (if (1 : Int) < 0 then ((1 : Int) + (((a :: r).map V.int).length : Int)).toNat else min (1 : Int).toNat ((a :: r).map V.int).length) = 1
        rw [if_neg (by omega), List.length_map, List.length_cons]
        show min 1 (r.length + 1) = 1
        omega
      rw [e, HT.sIx_none, List.map_drop, List.take_of_length_le (by rw [List.length_drop]; exact Nat.le_refl _)]
  have h2 : cutV (row.map V.int) (some (-1)) none = (row.drop (row.length - 1)).map V.int := by
    have e : HT.sIx (row.map V.int).length 0 (some (-1)) = row.length - 1 := by
      show (if (-1 : Int) < 0 then ((-1 : Int) + ((row.map V.int).length : Int)).toNat else min (-1 : Int).toNat (row.map V.int).length) = _
      rw [if_pos (by omega), List.length_map]
      omega
    unfold cutV
    rw [e, HT.sIx_none, List.map_drop, List.take_of_length_le]
    rw [List.length_drop, List.length_map]
    exact Nat.le_refl _
  rw [h1, h2, seconds, List.map_append]
theorem seconds_len (row : List Int) : (seconds row).length = row.length := by
  unfold seconds
  rw [List.length_append, List.length_drop, List.length_drop]
  omega
theorem seconds_at {row : List Int} {i : Nat} (hi : i < row.length) : (seconds row)[i]? = some ((row.drop (i + 1)).headD (row.getD i 0)) := by
  unfold seconds
  by_cases c : i + 1 < row.length
  · rw [List.getElem?_append_left (by rw [List.length_drop]; omega), List.getElem?_drop, List.headD_eq_head?_getD, List.head?_drop, Nat.add_comm 1 i, List.getElem?_eq_getElem c]
    rfl
  · rw [List.getElem?_append_right (by rw [List.length_drop]; omega), List.length_drop, List.getElem?_drop, List.drop_eq_nil_of_le (by omega), show row.length - 1 + (i - (row.length - 1)) = i by omega, List.getD_eq_getElem?_getD, List.getElem?_eq_getElem hi]
    rfl
theorem ev_din {ty td : TE} {σ : L2.St} {H : Hp} {d : Addr} {kvs : List (Key × V)} {k : Key} (hy : Ev ty σ H (kV k)) (hd : Ev td σ H (.ref d)) (h : H d = some (.dK kvs)) : Ev (tDIn ty td) σ H (.bl (valV kvs k).isSome) := fun H1 e Q q => hy H1 e _ fun H2 e2 => hd H2 (e.trans e2) _ fun H3 e3 => ⟨d, _, rfl, DGet.k (e3 _ _ (e2 _ _ (e _ _ h))), q H3 (e2.trans e3)⟩
theorem ev_dnotin {ty td : TE} {σ : L2.St} {H : Hp} {d : Addr} {kvs : List (Key × V)} {k : Key} (hy : Ev ty σ H (kV k)) (hd : Ev td σ H (.ref d)) (h : H d = some (.dK kvs)) : Ev (tDNotIn ty td) σ H (.bl (!(valV kvs k).isSome)) := fun H1 e Q q => hy H1 e _ fun H2 e2 => hd H2 (e.trans e2) _ fun H3 e3 => ⟨d, _, rfl, DGet.k (e3 _ _ (e2 _ _ (e _ _ h))), q H3 (e2.trans e3)⟩
theorem ev_dget {ty td : TE} {σ : L2.St} {H : Hp} {d : Addr} {kvs : List (Key × V)} {k : Key} {v : V} (hd : Ev td σ H (.ref d)) (hy : Ev ty σ H (kV k)) (h : H d = some (.dK kvs)) (hv : valV kvs k = some v) : Ev (tDGet td ty) σ H v := fun H1 e Q q => hd H1 e _ fun H2 e2 => hy H2 (e.trans e2) _ fun H3 e3 => ⟨d, v, rfl, .inl ⟨_, k, .inl (e3 _ _ (e2 _ _ (e _ _ h))), rfl, hv.symm⟩, q H3 (e2.trans e3)⟩
theorem putK_le (c : List (Key × V)) (k : Key) (x : V) : (putK c k x).length ≤ c.length + 1 := by
  unfold putK
  split
  · rw [List.length_map]; omega
  · rw [List.length_append, List.length_singleton]; omega
end BC

set_option Elab.async false
set_option linter.all false
set_option maxRecDepth 100000
set_option maxHeartbeats 4000000
/-! an own object is called -/
namespace BC
open PySem PySem.Spec PySem.Calls PyProof.Rows L2 Evl
section
variable {M : Model} {A : Around} {E : Value → Shared → Prop} {s : Shared} {env : Env} {pos : Pos} {x : Addr} {first : List Value} {Q : Value → Shared → Prop}
theorem callWith_own {args : List (Bool × Sem Value)} {keywords : List (Option Str × Sem Value)} (hplain : (args.any (·.1) || keywords.any (·.1.isNone)) = false)
    (h : wpAny M A (evalArgs (.ref x) true args keywords) (fun a s₁ => (∃ C ox od, PySem.W.InstAt s₁.heap x ox C od ∧ ox.data = .plain) ∧ wpAny M A (call (.ref x) (first ++ a.pos) a.kw) Q E s₁) E s) : wpAny M A (callWith pos (.ref x) first args keywords) Q E s := by
  unfold callWith
  refine wpAny_bind (wpAny_holding (wpAny_mono h (fun a s₁ h₁ => wpAny_bind (wpAny_standAt ?_)) fun _ _ y => y))
  obtain ⟨⟨C, ox, od, J, hd⟩, h2⟩ := h₁
  have L := PySem.W.kco_keeper (M := M) J hd
  simp only [hplain]
  refine wpAny_bind (L.here ?_)
  have tail : ∀ {t : Sem Value}, wpAny M A t Q E s₁ → wpAny M A (t >>= fun r => holding [r] point >>= fun _ => pure r) Q E s₁ :=
    fun ht => wpAny_bind (wpAny_mono ht (fun r s₂ hr => wpAny_bind (wpAny_holding (wpAny_point (wpAny_pure hr)))) fun _ _ y => y)
  exact tail (wpAny_operateT h2)
end
section
variable {X : Cx} {CX : CXT} {k : Nat} {f C a : Addr} {fd : FuncData} {ps ks : List Str} {sp : Sp} {E : XK} {x : Str} {p pos : Pos} {e : Expr} {es : List Expr} {kws : List Keyword} {tf : TE} {t tk : TA} {dvs : List V} {ds : List Value}
  {g : List Value → List Value → List Value} {gV : List V → List V → List V}
theorem inst_of {pins : List (Addr × Obj)} {σ : L2.St} {H : Hp} {s : Shared} (I : Inv X pins σ H s) {dx : Addr} {fs : List (Str × V)} (ea : H a = some (.ins C dx fs)) : ∃ ox od, PySem.W.InstAt s.heap a ox C od ∧ ox.data = .plain := by
  obtain ⟨mA, O, _, _, _, _⟩ := ins_get I.hok ea
  obtain ⟨od, J, _⟩ := O.look
  exact ⟨_, od, J, rfl⟩
structure CallOf (K : PySem.W.Frag) (C f : Addr) : Prop where
  hs : PySem.W.findIn K (.ref C) "__call__" = some (some (.ref f))
  hf : PySem.W.isFn K (.ref f) = true
  fn : PySem.W.fnIn K f = true
theorem run_own {pins : List (Addr × Obj)} {σ : L2.St} {H : Hp} {s : Shared} {Q : VK} {us : List Value} {vs : List V} (co : CallOf X.K C f) (F : FnOk X.prog X.w X.K X.mg X.base CX k f fd ps sp) (hr : Room k X.A) (hb : Binds X.K fd ps ds) (hd : Vals dvs ds) (hx : Passes CX X E)
    (I : Inv X pins σ H s) {dx : Addr} {fs : List (Str × V)} (ea : H a = some (.ins C dx fs)) (r : Vals vs us) (h : sp (.ref a :: (vs ++ dvs)) H Q E) : wpAny (model X.prog X.w) X.A (call (.ref a) us) (EP X pins σ Q) X.xe s := by
  obtain ⟨ox, od, J, hdt⟩ := inst_of I ea
  have r2 : Vals ((.ref a :: vs) ++ dvs) ((.ref a :: us) ++ ds) := Vals.append (.cons rfl r) hd
  have hl : ((.ref a :: us) ++ ds).length = ps.length := by rw [← r2.length]; exact F.len _ _ _ _ h
  refine wpAny_call (PySem.W.kco_code I.kIn J hdt co.hs co.hf co.fn ?_)
  refine codeAny_mono (F.run X.A X.stack s H ⟨.ref a :: us, []⟩ ((.ref a :: us) ++ ds) ((.ref a :: vs) ++ dvs) Q E hr I.env0 (hb s (.ref a :: us) I.kIn hl) r2 h) fun r s' hq => ?_
  cases r with
  | error e => exact hx pins σ H s e s' I hq
  | ok fl =>
    cases fl with
    | ret u => exact I.after hq
    | next => exact False.elim hq
    | brk => exact False.elim hq
    | cont => exact False.elim hq
theorem run_ownk {pins : List (Addr × Obj)} {σ : L2.St} {H : Hp} {s : Shared} {Q : VK} {us ws : List Value} {vs zs : List V} (co : CallOf X.K C f) (F : FnOk X.prog X.w X.K X.mg X.base CX k f fd ps sp) (hr : Room k X.A) (hb : KBinds X.K fd ps ks g gV) (hx : Passes CX X E)
    (I : Inv X pins σ H s) {dx : Addr} {fs : List (Str × V)} (ea : H a = some (.ins C dx fs)) (r : Vals vs us) (rz : Vals zs ws) (h : sp (gV (.ref a :: vs) zs) H Q E) : wpAny (model X.prog X.w) X.A (call (.ref a) us (ks.zip ws)) (EP X pins σ Q) X.xe s := by
  obtain ⟨ox, od, J, hdt⟩ := inst_of I ea
  have r2 := hb.rel (vs := .ref a :: vs) (us := .ref a :: us) (.cons rfl r) rz
  have hl : (g (.ref a :: us) ws).length = ps.length := by rw [← r2.length]; exact F.len _ _ _ _ h
  refine wpAny_call (PySem.W.kco_code I.kIn J hdt co.hs co.hf co.fn ?_)
  refine codeAny_mono (F.run X.A X.stack s H ⟨.ref a :: us, ks.zip ws⟩ (g (.ref a :: us) ws) (gV (.ref a :: vs) zs) Q E hr I.env0 (hb.to s (.ref a :: us) ws I.kIn hl) r2 h) fun r s' hq => ?_
  cases r with
  | error e => exact hx pins σ H s e s' I hq
  | ok fl =>
    cases fl with
    | ret u => exact I.after hq
    | next => exact False.elim hq
    | brk => exact False.elim hq
    | cont => exact False.elim hq
/-- o(e, ..) by the class's own __call__ -/
def tCallO (C : Addr) (sp : Sp) (dvs : List V) (E : XK) (tf : TE) (t : TA) : TE := fun σ H Q => tf σ H fun x H1 => ∃ a, x = .ref a ∧ t σ H1 fun vs H2 => (∃ dx fs, H2 a = some (.ins C dx fs)) ∧ sp (.ref a :: (vs ++ dvs)) H2 Q E
def tCallOK (C : Addr) (sp : Sp) (gV : List V → List V → List V) (E : XK) (tf : TE) (tk : TA) : TE := fun σ H Q => tf σ H fun x H1 => ∃ a, x = .ref a ∧ tk σ H1 fun zs H2 => (∃ dx fs, H2 a = some (.ins C dx fs)) ∧ sp (gV [.ref a] zs) H2 Q E
theorem pe_callO (hf : PE X (.Name x p) tf) (co : CallOf X.K C f) (F : FnOk X.prog X.w X.K X.mg X.base CX k f fd ps sp) (hr : Room k X.A) (hb : Binds X.K fd ps ds) (hd : Vals dvs ds) (hx : Passes CX X E) (ha : PA X (e :: es) t)
    (he : starEach (e :: es) X.env = (false, eval e X.env) :: starEach es X.env := by rfl) (hpl : (backTo pos (starEach es X.env)).any (·.1) = false := by rfl) : PE X (.Call (.Name x p) (e :: es) [] pos) (tCallO C sp dvs E tf t) := by
  refine ⟨fun pins s σ H Q I h => ?_⟩
  refine wpAny_Call_Name_kw (thn (hf.run pins s σ H _ I h) fun u s1 ⟨c, H1, I1, rc, a, ec, q1⟩ => ?_)
  subst ec
  obtain rfl : u = Value.ref a := rc
  have hh := thn (ha.run pos pins s1 σ H1 _ I1 q1) (Q' := fun vs s₁ => (∃ C ox od, PySem.W.InstAt s₁.heap a ox C od ∧ ox.data = .plain) ∧ wpAny (model X.prog X.w) X.A (call (.ref a) ([] ++ vs)) (EP X pins σ Q) X.xe s₁) fun us s2 ⟨vs, H2, I2, r, ⟨dx, fs, ea⟩, q2⟩ => by
    obtain ⟨ox, od, J, hdt⟩ := inst_of I2 ea
    exact ⟨⟨C, ox, od, J, hdt⟩, run_own co F hr hb hd hx I2 ea r q2⟩
  rw [he] at hh ⊢
  exact callWith_own (by show ((false || (backTo pos (starEach es X.env)).any (·.1)) || false) = false; rw [hpl]; rfl) (evalArgs_plain hh)
theorem pe_callOK0 (hf : PE X (.Name x p) tf) (co : CallOf X.K C f) (F : FnOk X.prog X.w X.K X.mg X.base CX k f fd ps sp) (hr : Room k X.A) (hb : KBinds X.K fd ps ks g gV) (hx : Passes CX X E) (hkw : PK X kws tk)
    (hall : (backToKw pos (keywordEach kws X.env)).all (·.1.isSome) = true := by rfl) (hks : (backToKw pos (keywordEach kws X.env)).filterMap (·.1) = ks := by rfl)
    (hpl : ((backTo pos (starEach [] X.env)).any (·.1) || (backToKw pos (keywordEach kws X.env)).any (·.1.isNone)) = false := by rfl) : PE X (.Call (.Name x p) [] kws pos) (tCallOK C sp gV E tf tk) := by
  refine ⟨fun pins s σ H Q I h => ?_⟩
  refine wpAny_Call_Name_kw (thn (hf.run pins s σ H _ I h) fun u s1 ⟨c, H1, I1, rc, a, ec, q1⟩ => ?_)
  subst ec
  obtain rfl : u = Value.ref a := rc
  have hh := thn (hkw.run pos pins s1 σ H1 _ I1 q1) (Q' := fun ws s₁ => (∃ C ox od, PySem.W.InstAt s₁.heap a ox C od ∧ ox.data = .plain) ∧ wpAny (model X.prog X.w) X.A (call (.ref a) ([] ++ []) (((backToKw pos (keywordEach kws X.env)).filterMap (·.1)).zip ws)) (EP X pins σ Q) X.xe s₁) fun ws s2 ⟨zs, H2, I2, rz, ⟨dx, fs, ea⟩, q2⟩ => by
    obtain ⟨ox, od, J, hdt⟩ := inst_of I2 ea
    refine ⟨⟨C, ox, od, J, hdt⟩, ?_⟩
    rw [hks]
    exact run_ownk (us := []) (vs := []) co F hr hb hx I2 ea .nil rz q2
  exact callWith_own hpl (evalArgs_kw2_nil hall hh)
theorem x_callO {σ : L2.St} {H : Hp} {Q : VK} : tCallO C sp dvs E tf t σ H Q = tf σ H (fun x H1 => ∃ a, x = .ref a ∧ t σ H1 fun vs H2 => (∃ dx fs, H2 a = some (.ins C dx fs)) ∧ sp (.ref a :: (vs ++ dvs)) H2 Q E) := rfl
theorem x_callOK {σ : L2.St} {H : Hp} {Q : VK} : tCallOK C sp gV E tf tk σ H Q = tf σ H (fun x H1 => ∃ a, x = .ref a ∧ tk σ H1 fun zs H2 => (∃ dx fs, H2 a = some (.ins C dx fs)) ∧ sp (gV [.ref a] zs) H2 Q E) := rfl
end
end BC

set_option Elab.async false
set_option linter.all false
set_option maxRecDepth 100000
set_option maxHeartbeats 4000000
/-! own objects: ==, !=, in, + -/
namespace BC
open PySem PySem.Spec PySem.Calls PyProof.Rows L2 Evl
theorem looks_of {X : Cx} {pins : List (Addr × Obj)} {σ : L2.St} {H : Hp} {s : Shared} {y : V} {u t : Value} (I : Inv X pins σ H s) (ry : RelV y u) (ty : TyX X.K H y t) (M : Model) : PySem.W.Looks M s.heap (typeOf u) t := by
  obtain ⟨P, Z, p, _⟩ := kit_of I ry ty
  exact Z.ty M s.heap I.kIn p
section
variable {X : Cx} {CX : CXT} {k : Nat} {f C : Addr} {fd : FuncData} {ps : List Str} {sp : Sp} {E : XK}
def rEqO (K : PySem.W.Frag) (C : Addr) (sp : Sp) (E : XK) : R2 := fun x y H Q => ∃ a dx fs t, x = .ref a ∧ H a = some (.ins C dx fs) ∧ TyX K H y t ∧ PySem.W.notFirst K C t = true ∧ sp [.ref a, y] H (fun v H' => ∃ b : Bool, v = .bl b ∧ Q (.bl b) H') E
theorem op_eqO (hs : PySem.W.findIn X.K (.ref C) "__eq__" = some (some (.ref f))) (hf : PySem.W.isFn X.K (.ref f) = true) (F : FnOk X.prog X.w X.K X.mg X.base CX k f fd ps sp) (hr : Room k X.A) (hu : X.A.units + 64 < cLine) (hb : Binds X.K fd ps []) (hx : Passes CX X E) : OpR X (compareOp .Eq) (rEqO X.K C sp E) := by
  intro pins s σ H x y v u Q I rx ry h
  obtain ⟨a, dx, fs, t, rfl, ea, ty, nf, h⟩ := h
  obtain rfl : v = Value.ref a := rx
  obtain ⟨ox, od, J, hdt⟩ := inst_of I ea
  obtain ⟨m, hF⟩ := I.fr
  refine PySem.W.cmp_K (op := .Eq) (by omega) hF I.ok.mod.kin J (looks_of I ry ty _) nf hs hf ?_
  refine thn (run_fn F hr hb .nil hx I (us := [.ref a, u]) (vs := [.ref a, y]) (.cons rfl (.cons ry .nil)) h) fun r s' hq => ?_
  obtain ⟨v', H', I', rv, b, rfl, q⟩ := hq
  obtain rfl : r = Value.bool b := rv
  exact ⟨.bl b, H', I', rfl, q⟩
def rInO (C : Addr) (sp : Sp) (E : XK) : R2 := fun x y H Q => ∃ a dx fs, y = .ref a ∧ H a = some (.ins C dx fs) ∧ sp [.ref a, x] H (fun v H' => ∃ b : Bool, v = .bl b ∧ Q (.bl b) H') E
theorem op_inO (hs : PySem.W.findIn X.K (.ref C) "__contains__" = some (some (.ref f))) (hf : PySem.W.isFn X.K (.ref f) = true) (F : FnOk X.prog X.w X.K X.mg X.base CX k f fd ps sp) (hr : Room k X.A) (hb : Binds X.K fd ps []) (hx : Passes CX X E) : OpR X (compareOp .In) (rInO C sp E) := by
  intro pins s σ H x y v u Q I rx ry h
  obtain ⟨a, dx, fs, rfl, ea, h⟩ := h
  obtain rfl : u = Value.ref a := ry
  obtain ⟨ox, od, J, hdt⟩ := inst_of I ea
  obtain ⟨m, hF⟩ := I.fr
  refine PySem.W.in_K hF I.ok.mod.kin J hs hf ?_
  refine thn (run_fn F hr hb .nil hx I (us := [.ref a, v]) (vs := [.ref a, x]) (.cons rfl (.cons rx .nil)) h) fun r s' hq => ?_
  obtain ⟨v', H', I', rv, b, rfl, q⟩ := hq
  obtain rfl : r = Value.bool b := rv
  show wpAny _ _ (pure b) _ _ _
  exact wpAny_pure ⟨.bl b, H', I', rfl, q⟩
def rAddO (C : Addr) (sp : Sp) (E : XK) : R2 := fun x y H Q => ∃ a b dx fs dx2 fs2, x = .ref a ∧ y = .ref b ∧ H a = some (.ins C dx fs) ∧ H b = some (.ins C dx2 fs2) ∧ sp [.ref a, .ref b] H (fun v H' => ∃ c : Addr, v = .ref c ∧ Q (.ref c) H') E
theorem op_addO (hs : PySem.W.findIn X.K (.ref C) (PySem.dunder Operator.Add.info.2) = some (some (.ref f))) (hf : PySem.W.isFn X.K (.ref f) = true) (sf : PySem.W.selfFirst X.K C = true) (F : FnOk X.prog X.w X.K X.mg X.base CX k f fd ps sp) (hr : Room k X.A) (hb : Binds X.K fd ps []) (hx : Passes CX X E) : OpR X (binaryOp .Add) (rAddO C sp E) := by
  intro pins s σ H x y v u Q I rx ry h
  obtain ⟨a, b, dx, fs, dx2, fs2, rfl, rfl, ea, eb, h⟩ := h
  obtain rfl : v = Value.ref a := rx
  obtain rfl : u = Value.ref b := ry
  obtain ⟨ox, od, J, hdt⟩ := inst_of I ea
  obtain ⟨ox2, od2, J2, hdt2⟩ := inst_of I eb
  obtain ⟨m, hF⟩ := I.fr
  refine PySem.W.binop_K hF I.ok.mod.kin J J2.type sf hs hf ?_
  refine thn (run_fn F hr hb .nil hx I (us := [.ref a, .ref b]) (vs := [.ref a, .ref b]) (.cons rfl (.cons rfl .nil)) h) fun r s' hq => ?_
  obtain ⟨v', H', I', rv, c, rfl, q⟩ := hq
  obtain rfl : r = Value.ref c := rv
  exact ⟨.ref c, H', I', rfl, q⟩
end
/-! ### != by object.__ne__ and the own __eq__ -/
section
open PySem.W
variable {prog : Program} {w : World} {A : Around} {E : Value → Shared → Prop} {s : Shared} {K : Frag} {x C f : Addr} {ox : Obj} {od : Option Obj} {b tb : Value}
theorem ne_body {Q : Bool → Shared → Prop} (hu : A.units < cLine) (X : K.In s.heap) (I : InstAt s.heap x ox C od) (hs : findIn K (.ref C) "__eq__" = some (some (.ref f))) (hf : isFn K (.ref f) = true)
    (h : wpAny (model prog w) A (call (.ref f) [.ref x, b]) (fun r s' => ∃ y : Bool, r = .bool y ∧ Q (!y) s') E s) :
    wpAny (model prog w) A (Builtin.«object.__ne__» ⟨[.ref x, b], []⟩) (fun r s' => ∃ y : Bool, r = Fin.done (.ret (.bool y)) ∧ Q y s') E s := by
  unfold Builtin.«object.__ne__»
  refine wpAny_bind (wpAny_of_eq (a := ((Value.ref x : Value), [b])) (by first | rfl | (simp only [slotArgs]; rfl)) ?_)
  refine wpAny_bind (wpAny_cRoomFor hu ?_)
  refine wpAny_bind (ifBound_K X I hs hf (wpAny_mono h (fun r s' hr => ?_) fun _ _ e => e))
  obtain ⟨y, rfl, q⟩ := hr
  show wpAny _ _ (pure (Fin.done (.ret (.bool (!y)))) : Sem Fin) _ _ _
  exact wpAny_pure ⟨!y, rfl, q⟩
theorem ne_call {Q : Bool → Shared → Prop} (hu : A.in1.units < cLine) (X : K.In s.heap) (I : InstAt s.heap x ox C od) (ho : subIn K (.ref C) (.type "object") = some true) (hs : findIn K (.ref C) "__eq__" = some (some (.ref f))) (hf : isFn K (.ref f) = true)
    (h : wpAny (model prog w) A.in1 (call (.ref f) [.ref x, b]) (fun r s' => ∃ y : Bool, r = .bool y ∧ Q (!y) s') E s) :
    wpAny (model prog w) A (call (.builtin "object.__ne__") [.ref x, b]) (fun r s' => ∃ y : Bool, r = .bool y ∧ Q y s') E s := by
  have sub : Looks (model prog w) s.heap (isInstance (.ref x) (.type "object")) true := I.type.andThen (looks_subIn X ho)
  refine wpAny_call (codeAny_call_builtin PySem.F.cmp_object.ne.plain PySem.F.cmpEntry_ne (check_slot PySem.F.cmpKind_ne PySem.F.cmpSplit_ne sub (PySem.F.cmpArgs_ne _ _) ?_))
  refine wpAny_mono (ne_body hu X I hs hf h) (fun r s' hr => ?_) fun _ _ e => e
  obtain ⟨y, rfl, q⟩ := hr
  exact ⟨y, rfl, q⟩
theorem ne_try {Q : Bool → Shared → Prop} (hu : A.in1.units < cLine) (X : K.In s.heap) (I : InstAt s.heap x ox C od) (ho : subIn K (.ref C) (.type "object") = some true) (hne : findIn K (.ref C) "__ne__" = some (some (.builtin "object.__ne__"))) (hs : findIn K (.ref C) "__eq__" = some (some (.ref f))) (hf : isFn K (.ref f) = true)
    (h : wpAny (model prog w) A.in1 (call (.ref f) [.ref x, b]) (fun r s' => ∃ y : Bool, r = .bool y ∧ Q (!y) s') E s) :
    wpAny (model prog w) A (tryCompare (.ref x) "__ne__" b) (fun r s' => ∃ y : Bool, r = some (.bool y) ∧ Q y s') E s := by
  unfold tryCompare
  refine wpAny_bind (wpAny_mono (Q := fun r s' => ∃ y : Bool, r = some (.bool y) ∧ Q y s') ?_ (fun r s' hr => ?_) fun _ _ e => e)
  · simp only [callSpecialIfBound?, bindSpecialIfBound?]
    refine wpAny_holding (wpAny_bind (wpAny_bind (wpAny_bind (I.type.here ((looks_findIn X hne).here ?_)))))
    simp only [PySem.F.cmp_object.ne.bind]
    refine wpAny_bind (wpAny_askSetting (wpAny_ite ?_))
    have fin : wpAny (model prog w) A (call (.builtin "object.__ne__") ([.ref x] ++ [b]) >>= fun v => pure (some v)) (fun r s' => ∃ y : Bool, r = some (.bool y) ∧ Q y s') E s :=
      wpAny_bind (wpAny_mono (ne_call hu X I ho hs hf h) (fun v s' h' => wpAny_pure (by obtain ⟨y, rfl, q⟩ := h'; exact ⟨y, rfl, q⟩)) fun _ _ h' => h')
    split
    · exact wpAny_bind (wpAny_pure (wpAny_pure fin))
    · exact wpAny_tryCatch (wpAny_bind (wpAny_pure (wpAny_pure fin)))
  · obtain ⟨y, rfl, q⟩ := hr
    exact wpAny_pure ⟨y, rfl, q⟩
theorem ne_own {Q : Value → Shared → Prop} (hu : A.in1.units < cLine) (hu0 : A.units < cLine) (X : K.In s.heap) (I : InstAt s.heap x ox C od) (hb : Looks (model prog w) s.heap (typeOf b) tb) (hn : notFirst K C tb = true)
    (ho : subIn K (.ref C) (.type "object") = some true) (hne : findIn K (.ref C) "__ne__" = some (some (.builtin "object.__ne__"))) (hs : findIn K (.ref C) "__eq__" = some (some (.ref f))) (hf : isFn K (.ref f) = true)
    (h : wpAny (model prog w) A.in1 (call (.ref f) [.ref x, b]) (fun r s' => ∃ y : Bool, r = .bool y ∧ Q (.bool (!y)) s') E s) : wpAny (model prog w) A (richCompare .NotEq (.ref x) b) Q E s := by
  have one := ne_try (Q := fun y s' => Q (.bool y) s') hu X I ho hne hs hf h
  unfold richCompare
  simp only [oneThing_ref]
  refine wpAny_holding (wpAny_bind (wpAny_cRoomFor hu0 ?_))
  refine wpAny_bind (I.type.here (wpAny_bind (hb.here ?_)))
  split
  · rename_i q
    have e : subIn K tb (.ref C) = some false := by
      rcases Bool.or_eq_true_iff.mp hn with e | e
      · rw [beq_iff_eq.mp e] at q; simp at q
      · exact beq_iff_eq.mp e
    refine wpAny_bind ((looks_subIn X e).here ?_)
    simp only [Bool.false_eq_true, if_false]
    refine wpAny_bind (wpAny_mono one (fun r s' z => ?_) fun _ _ e => e)
    obtain ⟨v, rfl, hq⟩ := z
    exact wpAny_pure hq
  · refine wpAny_bind (wpAny_pure ?_)
    simp only [Bool.false_eq_true, if_false]
    refine wpAny_bind (wpAny_mono one (fun r s' z => ?_) fun _ _ e => e)
    obtain ⟨v, rfl, hq⟩ := z
    exact wpAny_pure hq
end
section
variable {X : Cx} {CX : CXT} {k : Nat} {f C : Addr} {fd : FuncData} {ps : List Str} {sp : Sp} {E : XK}
theorem run_fn1 {pins : List (Addr × Obj)} {σ : L2.St} {H : Hp} {s : Shared} {Q : VK} {us : List Value} {vs : List V} (F : FnOk X.prog X.w X.K X.mg X.base CX k f fd ps sp) (hr : Room (k + 1) X.A) (hb : Binds X.K fd ps []) (hx : Passes CX X E)
    (I : Inv X pins σ H s) (r : Vals vs us) (h : sp vs H Q E) : wpAny (model X.prog X.w) X.A.in1 (call (.ref f) us) (EP X pins σ Q) X.xe s := by
  have hl : us.length = ps.length := by rw [← r.length]; exact F.len _ _ _ _ h
  have hl2 : (us ++ ([] : List Value)).length = ps.length := by rw [List.append_nil]; exact hl
  have hb2 := hb s us I.kIn hl2
  rw [List.append_nil] at hb2
  refine wpAny_call (codeAny_mono (F.run X.A.in1 X.stack s H ⟨us, []⟩ us vs Q E hr.in1 I.env0.in1 hb2 r h) fun r s' hq => ?_)
  cases r with
  | error e => exact hx pins σ H s e s' I hq
  | ok fl =>
    cases fl with
    | ret u => exact I.after hq
    | next => exact False.elim hq
    | brk => exact False.elim hq
    | cont => exact False.elim hq
structure NeOf (K : PySem.W.Frag) (C : Addr) : Prop where
  ob : PySem.W.subIn K (.ref C) (.type "object") = some true
  ne : PySem.W.findIn K (.ref C) "__ne__" = some (some (.builtin "object.__ne__"))
theorem op_neO (N : NeOf X.K C) (hs : PySem.W.findIn X.K (.ref C) "__eq__" = some (some (.ref f))) (hf : PySem.W.isFn X.K (.ref f) = true) (F : FnOk X.prog X.w X.K X.mg X.base CX k f fd ps sp) (hr : Room (k + 1) X.A) (hu : X.A.units + 64 < cLine) (hb : Binds X.K fd ps []) (hx : Passes CX X E) : OpR X (compareOp .NotEq) (fun x y H Q => rEqO X.K C sp E x y H fun v H' => ∃ b : Bool, v = .bl b ∧ Q (.bl (!b)) H') := by
  intro pins s σ H x y v u Q I rx ry h
  obtain ⟨a, dx, fs, t, rfl, ea, ty, nf, h⟩ := h
  obtain rfl : v = Value.ref a := rx
  obtain ⟨ox, od, J, hdt⟩ := inst_of I ea
  refine ne_own (by show X.A.units + 1 < cLine; omega) (by omega) I.kIn J (looks_of I ry ty _) nf N.ob N.ne hs hf ?_
  refine thn (run_fn1 F hr hb hx I (us := [.ref a, u]) (vs := [.ref a, y]) (.cons rfl (.cons ry .nil)) h) fun r s' hq => ?_
  obtain ⟨v', H', I', rv, b, rfl, c, hc, q⟩ := hq
  cases hc
  obtain rfl : r = Value.bool b := rv
  exact ⟨b, rfl, .bl (!b), H', I', rfl, q⟩
end
/-- what of the text a class with own operations must have -/
structure ClsO (K : PySem.W.Frag) (C : Addr) : Prop where
  cl : Cls K C
  ha : PySem.W.findIn K (.ref C) "__class__" = some (some (.builtin "object.__class__"))
  hn : PySem.W.specialIn K (.builtin "object.__class__") "__get__" = some (some (.builtin "getset_descriptor.__get__"))
  htk : PySem.W.takesIn K (.builtin "object.__class__") = some true
  hm : PySem.W.mroIn K C (.type "object") = some true
  ic : PySem.W.isClsIn K C = true
  tc : PySem.W.typeIn K (.ref C) = some (.type "type")
  nf_list : PySem.W.notFirst K C (.type "list") = true
  nf_tuple : PySem.W.notFirst K C (.type "tuple") = true
  nf_dict : PySem.W.notFirst K C (.type "dict") = true
  nf_int : PySem.W.notFirst K C (.type "int") = true
  nf_str : PySem.W.notFirst K C (.type "str") = true
  nf_bool : PySem.W.notFirst K C (.type "bool") = true
  nf_NoneType : PySem.W.notFirst K C (.type "NoneType") = true
  sf : PySem.W.selfFirst K C = true
  ob : PySem.W.subIn K (.ref C) (.type "object") = some true
  ne : PySem.W.findIn K (.ref C) "__ne__" = some (some (.builtin "object.__ne__"))
theorem ClsO.me {K : PySem.W.Frag} {C : Addr} (c : ClsO K C) : PySem.W.kitOne K (.ref C) (.ref C) = some true := by simp [PySem.W.kitOne]
theorem ClsO.ki {K : PySem.W.Frag} {C : Addr} (c : ClsO K C) {t : String} (n : PySem.W.notFirst K C (.type t) = true) : PySem.W.kitOne K (.type t) (.ref C) = some false := by
  have hne : ((Value.type t) == Value.ref C) = false := beq_eq_false_iff_ne.mpr (fun z => nomatch z)
  have hs : PySem.W.subIn K (.type t) (.ref C) = some false := by
    unfold PySem.W.notFirst at n
    rw [hne, Bool.false_or] at n
    exact beq_iff_eq.mp n
  have hi : (PySem.W.clsIn K C).isSome = true := c.ic
  unfold PySem.W.kitOne PySem.W.kitCls
  rw [hne, if_neg Bool.false_ne_true]
  simp only [hi, c.tc, beq_self_eq_true, Bool.and_self, if_true]
  exact hs
theorem ClsO.neOf {K : PySem.W.Frag} {C : Addr} (c : ClsO K C) : NeOf K C := ⟨c.ob, c.ne⟩
theorem ClsO.ty {K : PySem.W.Frag} {C : Addr} (c : ClsO K C) {H : Hp} {a dx : Addr} {fs : List (Str × V)} (e : H a = some (.ins C dx fs)) : TyX K H (.ref a) (.ref C) := .base (.ins e c.cl c.ha c.hn c.htk c.hm)
theorem ClsO.self {K : PySem.W.Frag} {C : Addr} : PySem.W.notFirst K C (.ref C) = true := by simp [PySem.W.notFirst]
/-- a value that is no object of the class, its type known -/
def Odd (K : PySem.W.Frag) (C : Addr) (H : Hp) (y : V) : Prop := ∃ t, TyX K H y t ∧ PySem.W.notFirst K C t = true ∧ PySem.W.kitOne K t (.ref C) = some false
theorem Odd.non {K : PySem.W.Frag} {C : Addr} {H : Hp} (c : ClsO K C) : Odd K C H .non := ⟨_, .base .non, c.nf_NoneType, c.ki c.nf_NoneType⟩
theorem Odd.int {K : PySem.W.Frag} {C : Addr} {H : Hp} (c : ClsO K C) (i : Int) : Odd K C H (.int i) := ⟨_, .base (.int i), c.nf_int, c.ki c.nf_int⟩
theorem Odd.bl {K : PySem.W.Frag} {C : Addr} {H : Hp} (c : ClsO K C) (b : Bool) : Odd K C H (.bl b) := ⟨_, .base (.bl b), c.nf_bool, c.ki c.nf_bool⟩
theorem Odd.str {K : PySem.W.Frag} {C : Addr} {H : Hp} (c : ClsO K C) (x : Str) : Odd K C H (.str x) := ⟨_, .base (.str x), c.nf_str, c.ki c.nf_str⟩
theorem Odd.lst {K : PySem.W.Frag} {C : Addr} {H : Hp} (c : ClsO K C) {a : Addr} {xs : List V} (e : H a = some (.lst xs)) : Odd K C H (.ref a) := ⟨_, .base (.lst e), c.nf_list, c.ki c.nf_list⟩
theorem Odd.tup {K : PySem.W.Frag} {C : Addr} {H : Hp} (c : ClsO K C) {a : Addr} {xs : List V} (e : H a = some (.tup xs)) : Odd K C H (.ref a) := ⟨_, .base (.tup e), c.nf_tuple, c.ki c.nf_tuple⟩
theorem Odd.dic {K : PySem.W.Frag} {C : Addr} {H : Hp} (c : ClsO K C) {a : Addr} {xs : List (Key × V)} (e : H a = some (.dK xs)) : Odd K C H (.ref a) := ⟨_, .base (.dK e), c.nf_dict, c.ki c.nf_dict⟩
theorem hu64 {a : Nat} (h : a + 64 < cLine) : a < cLine := by omega
def rDictD : List V → Hp → VK → Prop := fun xs H Q => ∃ (a : Addr) (kvs : List (Key × V)), xs = [.ref a] ∧ Rd H a (.dK kvs) ∧ ∀ p, H p = none → Q (.ref p) (upd H p (.dK kvs))
theorem k_dictD {X : Cx} : CallR X (.type "dict") rDictD := L2.call_dictD
theorem lg_tup {K : PySem.W.Frag} {a : Addr} {xs : List V} {g : TG} {tb : TS} {D : Ends} {σ : L2.St} {H : Hp} (Pv : Nat → L2.St → Hp → Prop) (h0 : Pv 0 σ H) (hl : ∀ i σ H, i ≤ xs.length → Pv i σ H → SqT K H a xs)
    (hs : ∀ i x σ H, xs[i]? = some x → Pv i σ H → g x σ H fun σ2 H2 => tb { D with nx := Pv (i + 1), ct := Pv (i + 1), bk := D.nx } σ2 H2) (hd : ∀ σ H, Pv xs.length σ H → D.nx σ H) : LoopG (Itt K a) g tb D σ H := for_tup Pv h0 hl hs hd
section
variable {X : Cx} {CX : CXT} {K : PySem.W.Frag} {k : Nat} {f C : Addr} {fd : FuncData} {ps : List Str} {sp : Sp} {E : XK}
theorem k_eqO (hK : X.K = K) (hs : PySem.W.findIn K (.ref C) "__eq__" = some (some (.ref f))) (hf : PySem.W.isFn K (.ref f) = true) (F : FnOk X.prog X.w X.K X.mg X.base CX k f fd ps sp) (hr : Room k X.A) (hu : X.A.units + 64 < cLine) (hb : Binds K fd ps []) (hx : Passes CX X E) : OpR X (compareOp .Eq) (rEqO K C sp E) := by
  subst hK
  exact op_eqO hs hf F hr hu hb hx
def rNeO (K : PySem.W.Frag) (C : Addr) (sp : Sp) (E : XK) : R2 := fun x y H Q => rEqO K C sp E x y H fun v H' => ∃ b : Bool, v = .bl b ∧ Q (.bl (!b)) H'
theorem k_neO (hK : X.K = K) (N : NeOf K C) (hs : PySem.W.findIn K (.ref C) "__eq__" = some (some (.ref f))) (hf : PySem.W.isFn K (.ref f) = true) (F : FnOk X.prog X.w X.K X.mg X.base CX k f fd ps sp) (hr : Room (k + 1) X.A) (hu : X.A.units + 64 < cLine) (hb : Binds K fd ps []) (hx : Passes CX X E) : OpR X (compareOp .NotEq) (rNeO K C sp E) := by
  subst hK
  exact op_neO N hs hf F hr hu hb hx
end
end BC

set_option Elab.async false
set_option linter.all false
set_option maxRecDepth 100000
set_option maxHeartbeats 4000000
/-! a caught exception as a tracked object: in its suite, behind it, and handed to defs -/
namespace BC
open PySem PySem.Spec PyProof.Rows L2
/-- an exception's object: its class, its dict -/
def ExT (cls : Value) (d : Option Addr) (a : Addr) : HO := .ext fun h => ∃ (ob : Obj) (fs : Array Value), h.get? a = some ob ∧ Zc cls d ob ∧ ob.data = .fields fs
theorem exT_ok {P : Program} {w : World} {H : Hp} {h : Heap} {a : Addr} {cls : Value} {d : Option Addr} {ob : Obj} {fs : Array Value} (e : h.get? a = some ob) (z : Zc cls d ob) (f : ob.data = .fields fs) : ObjOk P w H h a (ExT cls d a) := by
  refine ⟨⟨ob, fs, e, z, f⟩, ⟨ob, e⟩, ?_⟩
  rintro h1 h2 ⟨o2, f2, e2, z2, q2⟩ k
  exact ⟨o2, f2, k _ e2, z2, q2⟩
/-- at a stands an exception of this class, without a dict -/
def IsEx (H : Hp) (a : Addr) (cls : Value) : Prop := ∃ φ : Heap → Prop, H a = some (.ext φ) ∧ ∀ h, φ h → ∃ (ob : Obj) (fs : Array Value), h.get? a = some ob ∧ Zc cls none ob ∧ ob.data = .fields fs
theorem isEx_T {H : Hp} {a : Addr} {cls : Value} (h : H a = some (ExT cls none a)) : IsEx H a cls := ⟨_, h, fun _ q => q⟩
theorem isEx_O {H : Hp} {a : Addr} {cls : Value} (h : H a = some (ExO cls a)) : IsEx H a cls := ⟨_, h, fun _ q => by
  obtain ⟨ob, fs, e, z, d, _⟩ := q
  exact ⟨ob, fs, e, z, d⟩⟩
theorem IsEx.at {H H' : Hp} {a : Addr} {cls : Value} (x : IsEx H a cls) (h : ∀ o, H a = some o → H' a = some o) : IsEx H' a cls := by
  obtain ⟨φ, e, q⟩ := x
  exact ⟨φ, h _ e, q⟩
section
variable {X : Cx} {pins : List (Addr × Obj)} {σ : L2.St} {H : Hp} {s : Shared}
/-- an object that stands untracked, younger than the frame, is tracked -/
theorem inv_track {a : Addr} {φ : Heap → Prop} (I : Inv X pins σ H s) (n0 : X.s_0.heap.get? a = none) (na : H a = none) (nL : a ≠ X.env.locals) (nC : ∀ x c, X.env.cells.lookup x = some c → c ≠ a) (nP : ∀ p ∈ X.pn ++ pins, p.1 ≠ a)
    (new : ObjOk X.prog X.w (upd H a (.ext φ)) s.heap a (.ext φ)) : Inv X pins σ (upd H a (.ext φ)) s := by
  have old : ∀ b o, X.s_0.heap.get? b = some o → b ≠ a := by
    rintro b o e rfl
    rw [n0] at e
    cases e
  have trk : ∀ {b : Addr} {o : HO}, H b = some o → b ≠ a := by
    rintro b o e rfl
    rw [na] at e
    cases e
  have frame : upd H a (.ext φ) X.env.locals = none := by rw [upd_ne (Ne.symm nL)]; exact I.free
  have un : Un X.fs X.ex X.H_0 (upd H a (.ext φ)) X.s_0.heap s.heap :=
    { keep := I.base.keep
      slot := I.base.slot
      free := fun b o e n x => by rw [upd_ne (old b o e)]; exact I.base.free b o e n x
      there := I.base.there
      tups := fun b xs e => by have q := I.base.tups b xs e; rw [upd_ne (trk q)]; exact q
      frzs := fun b o xs e => by have q := I.base.frzs b o xs e; rw [upd_ne (trk q)]; exact q
      tbls := fun b ps e => by obtain ⟨m, q⟩ := I.base.tbls b ps e; exact ⟨m, by rw [upd_ne (trk q)]; exact q⟩ }
  have held : HOk X.prog X.w (upd H a (.ext φ)) s.heap := by
    intro b u e
    by_cases q : b = a
    · subst q
      rw [upd_same] at e
      cases e
      exact new
    · rw [upd_ne q] at e
      exact (I.hok b u e).stay (fun _ _ _ z => z) (fun c z => by rw [upd_ne (trk z)]; exact z) fun c xs z => by rw [upd_ne (trk z)]; exact z
  exact { ok := I.ok, os := I.os, bare := I.bare, base := un, loc := I.loc, cell := I.cell, free := frame, hok := held, len := I.len
          freeC := fun x c e => by rw [upd_ne (nC x c e)]; exact I.freeC x c e
          pin := fun p hp => by obtain ⟨h1, h2, h3⟩ := I.pin p hp; exact ⟨h1, by rw [upd_ne (nP p hp)]; exact h2, h3⟩ }
/-- into the suite, the exception tracked -/
theorem inv_intoT (I : Inv X pins σ H s) (a : Addr) : Inv (X.suite a (X.pn ++ pins)) [] σ H s :=
  ⟨I.ok.suite a (X.pn ++ pins), I.os, I.bare, I.base, I.loc, I.cell, I.free, I.freeC, fun p hp => I.pin p (by rwa [List.append_nil] at hp), I.hok, I.len⟩
theorem inv_outT {a : Addr} {pn' : List (Addr × Obj)} (I : Inv (X.suite a (X.pn ++ pins)) pn' σ H s) (ok : X.Ok) : Inv X pins σ H s :=
  ⟨ok, I.os, I.bare, I.base, I.loc, I.cell, I.free, I.freeC, fun p hp => I.pin p (List.mem_append_left _ hp), I.hok, I.len⟩
end
/-- the wish of 'except x as n' where the exception is tracked from then on -/
def wTrk (K : PySem.W.Frag) (c : Value) (i : Nat) (ts : Addr → Value → Option Addr → TS) (Wout : WX) (D : Ends) : WX := fun cls d σ H =>
  ∃ b, PySem.W.exmOne K cls c = some b ∧ (b = true → ∀ a, H a = none → ts a cls d { nx := fun σ' H' => D.nx (σ'.set i none) H', rt := D.rt, bk := fun σ' H' => D.bk (σ'.set i none) H', ct := fun σ' H' => D.ct (σ'.set i none) H' } (σ.set i (some (.ref a))) (upd H a (ExT cls d a))) ∧
    (b = false → Wout cls d σ H)
section
variable {X : Cx} {x n : Str} {c : Value} {i : Nat} {body suite : List Stmt} {b0 : Stmt} {np pos hpos : Pos} {tb : WX → TS} {ts : Addr → Value → Option Addr → TS} {Wout : WX}
theorem ps_try_trk (hs : X.stack = X.env :: X.outer) (hf : X.env.frame = some X.env.locals) (hx : X.ex = []) (hN : X.N.Nodup) (hi : X.N[i]? = some n) (hln : X.env.kindOf n = some .local) (hc : Names X x c) (tk : Takes X Wout)
    (hb : ∀ (W : WX) (pn : List (Addr × Obj)) (xe : Value → Shared → Prop), Takes (X.tr pn xe) W → PassesOwn (model X.prog X.w) X.A X.env xe → PSs (X.tr pn xe) body (tb W))
    (hsu : ∀ (a : Addr) (cls : Value) (d : Option Addr) (pn : List (Addr × Obj)), PSs (X.suite a pn) (b0 :: suite) (ts a cls d)) :
    PS X (.Try body [.ExceptHandler (some (.Name x np)) (some n) (b0 :: suite) hpos] [] [] pos) (fun D σ H => tb (wTrk X.K c i ts Wout D) D σ H) := by
  constructor
  intro pins s σ H D I h
  have ok := I.ok
  have frames : X.A.frames = some (X.env :: X.outer) := hs ▸ ok.frames
  let W0 := wTrk X.K c i ts Wout D
  let after := fun (e : Value) (s1 : Shared) => wpAny (model X.prog X.w) X.A (noteFrame e X.env) (fun _ s2 => wpAny (model X.prog X.w) X.A (setFlight e none) (fun _ s3 =>
    wpAny (model X.prog X.w) X.A (handleBy e X.env [.ExceptHandler (some (.Name x np)) (some n) (b0 :: suite) hpos]) (SP X pins D) X.xe s3) X.xe s2) X.xe s1
  have take : Takes (X.tr (X.pn ++ pins) after) W0 := by
    rintro u s' ⟨a, B, sI, pins1, σ1, H1, cls, d, rfl, J0, nb, up, sky, na, os, ag, b, eb, yes, no⟩
    have J : Inv X pins σ1 H1 sI := J0.ofTry ok
    rw [show (X.tr (X.pn ++ pins) after).stack = X.env :: X.outer from hs] at sky
    refine Sky.land (Z := Zc cls d) Zc.steady frames hf sky fun h3 fly3 up3 => ?_
    have J3 : Inv X pins σ1 H1 { s' with heap := h3 } := J.landed nb fly3.1 (up.trans up3) os ag
    obtain ⟨o3, f3, e3, z3, d3⟩ := fly3.there
    have outside : a ∉ frs (X.env :: X.outer) := by
      intro hm
      obtain ⟨_, o', e', no'⟩ := fly3.2.2.1.mem hm
      rw [e3] at e'
      cases e'
      exact no' _ d3
    have gone : sI.heap.get? a = none := by
      cases q : sI.heap.get? a with
      | none => rfl
      | some o =>
        have z := nb a o q (by rw [show (X.tr (X.pn ++ pins) after).stack = X.env :: X.outer from hs]; exact outside)
        rw [fly3.2.1] at z
        cases z
    have n0 : X.s_0.heap.get? a = none := by
      cases q : X.s_0.heap.get? a with
      | none => rfl
      | some o =>
        obtain ⟨o', z⟩ := J.base.there a o q (by rw [hx]; exact List.not_mem_nil)
        rw [gone] at z
        cases z
    have nL : a ≠ X.env.locals := fun z => outside (List.mem_filterMap.mpr ⟨X.env, List.mem_cons_self, by rw [hf, z]⟩)
    have nF : a ∉ X.fs := by
      intro hm
      obtain ⟨e, he, q⟩ := List.mem_filterMap.mp hm
      exact outside (List.mem_filterMap.mpr ⟨e, List.mem_cons_of_mem _ he, q⟩)
    have nC : ∀ y k, X.env.cells.lookup y = some k → k ≠ a := by
      rintro y k e rfl
      obtain ⟨v, o, z, _⟩ := J.cell y k e
      rw [gone] at z
      cases z
    have nP : ∀ p ∈ X.pn ++ pins, p.1 ≠ a := by
      intro p hp q
      have z := (J.pin p hp).1
      rw [q, gone] at z
      cases z
    have S3 := J3.suite e3 d3 na nL nF
    refine wpAny_handleBy_cons (codeAny_handlers_test ?_) (fun q => nomatch q)
    have LT : PySem.W.Looks (model X.prog X.w) h3 (typeOf (.ref a)) cls := fun A Q E s2 k q => wpAny_typeOf_ref (k _ _ e3) (by rw [z3.1]; exact q)
    have LM := PySem.W.exm_one (M := model X.prog X.w) (J3.kIn) LT eb
    have asked : ∀ {Q : Value → Shared → Prop} {E : Value → Shared → Prop}, Q c { s' with heap := h3 } → wpAny (model X.prog X.w) (X.A.mark (some (.ref a))) (eval (.Name x np) X.env) Q E { s' with heap := h3 } := by
      intro Q E q
      obtain ⟨hg, hdb, hm | ⟨hm, hv, hnn⟩⟩ := hc
      · exact ld_glob (X := X.suite a ((a, o3) :: (X.pn ++ pins))) S3 hg hm q hdb
      · exact ld_blt (X := X.suite a ((a, o3) :: (X.pn ++ pins))) S3 hg hm hv q hnn hdb
    refine asked (LM.here ?_)
    cases b with
    | false =>
      show wpAny _ X.A (handleBy (.ref a) X.env []) _ _ _
      refine wpAny_handleBy_nil ?_
      obtain ⟨_, _, _, ob, vs, T, oT, tt, he, hz, hd, h1, hr⟩ := id fly3
      have fin : wpAny (model X.prog X.w) X.A (setFlight (.ref a) X.env.frame) (fun _ s4 => wpAny (model X.prog X.w) X.A (throw (.ref a) : Sem Flow) (SP X pins D) X.xe s4) X.xe { s' with heap := h3 } := by
        rw [hf]
        refine HandSPX.setFlight_upZ fly3 fun h4 held up4 => wpAny_throw (tk _ _ ?_)
        exact ⟨a, B, sI, pins, σ1, H1, cls, d, rfl, J, by rw [hs]; rw [show (X.tr (X.pn ++ pins) after).stack = X.env :: X.outer from hs] at nb; exact nb, (up.trans up3).trans up4, .inr (.inr (by rw [hs]; exact held)), na, os, ag, no rfl⟩
      unfold PySem.passOn
      refine wpAny_bind (wpAny_field he hd h1 ?_)
      rw [if_neg (by simp : ¬ ((Value.ref T == Value.none) = true))]
      first
        | exact wpAny_bind fin
        | exact wpAny_bind (wpAny_pure (wpAny_bind fin))
    | true =>
      refine codeAny_handlers_suite_as ?_
      refine HandSPX.lands_againZ fly3 fun h4 fly4 up4 => ?_
      have J4 : Inv X pins σ1 H1 { s' with heap := h4 } := J.landed nb fly4.1 ((up.trans up3).trans up4) os ag
      obtain ⟨o4, f4, e4, z4, d4⟩ := fly4.there
      have T4 : Inv X pins σ1 (upd H1 a (ExT cls d a)) { s' with heap := h4 } := inv_track J4 n0 na nL nC nP (exT_ok e4 z4 d4)
      refine store_ok (X := X.suite a (X.pn ++ pins)) (v := .ref a) (inv_intoT T4 a) hN hi (.inl hln) rfl (fun s5 S5 => ?_) (.inr hln)
      refine wpAny_mono ((hsu a cls d (X.pn ++ pins)).run [] s5 _ _ _ S5 (yes rfl a na)) (fun fl s6 res => ?_) fun _ _ z => z.elim
      have close : ∀ {σ6 : L2.St} {H6 : Hp} {Q : Shared → Prop}, Inv (X.suite a (X.pn ++ pins)) [] σ6 H6 s6 → (∀ s7, Inv X pins (σ6.set i none) H6 s7 → Q s7) →
          wpAny (model X.prog X.w) X.A (do bindName X.env n .none; unbindBehindTheSuite X.env n hpos) (fun _ s7 => Q s7) X.xe s6 := fun S6 q => gone_ok (inv_outT S6 ok) hN hi hln q
      match fl, res with
      | .next, res =>
        obtain ⟨σ6, H6, S6, q6⟩ := res
        exact close S6 fun s7 J7 => ⟨_, _, J7, q6⟩
      | .brk, res =>
        obtain ⟨σ6, H6, S6, q6⟩ := res
        exact close S6 fun s7 J7 => ⟨_, _, J7, q6⟩
      | .cont, res =>
        obtain ⟨σ6, H6, S6, q6⟩ := res
        exact close S6 fun s7 J7 => ⟨_, _, J7, q6⟩
      | .ret u, res =>
        obtain ⟨v6, σ6, H6, S6, r6, q6⟩ := res
        exact close S6 fun s7 J7 => ⟨_, _, _, J7, r6, q6⟩
  refine wpAny_Try_except (wpAny_mono ((hb W0 (X.pn ++ pins) after take PassesOwn.looking).run [] s σ H D (I.toTry _) h) (fun fl s1 res => ?_) fun e s1 he => he)
  match fl, res with
  | .next, res =>
    obtain ⟨σ2, H2, J2, q⟩ := res
    exact wpAny_execs_nil ⟨σ2, H2, J2.ofTry ok, q⟩
  | .brk, res =>
    obtain ⟨σ2, H2, J2, q⟩ := res
    exact ⟨σ2, H2, J2.ofTry ok, q⟩
  | .cont, res =>
    obtain ⟨σ2, H2, J2, q⟩ := res
    exact ⟨σ2, H2, J2.ofTry ok, q⟩
  | .ret u, res =>
    obtain ⟨v, σ2, H2, J2, r, q⟩ := res
    exact ⟨v, σ2, H2, J2.ofTry ok, r, q⟩
end
/-! ### isinstance of a tracked exception -/
/-- isinstance(e, C) -/
def rIsX (K : PySem.W.Frag) : List V → Hp → VK → Prop := fun xs H Q => ∃ (a D : Addr) (c : V) (cv : Value) (b : Bool), xs = [.ref a, c] ∧ IsEx H a (.ref D) ∧ ExcC K D ∧ ClsV c cv ∧ PySem.W.kitOne K (.ref D) cv = some b ∧ Q (.bl b) H
/-- isinstance(e, (C1, C2, ..)) -/
def rIsXT (K : PySem.W.Frag) : List V → Hp → VK → Prop := fun xs H Q => ∃ (a D tp : Addr) (cs : List V) (us : List Value) (b : Bool), xs = [.ref a, .ref tp] ∧ IsEx H a (.ref D) ∧ ExcC K D ∧ H tp = some (.tup cs) ∧ Paired ClsV cs us ∧ PySem.W.kitAny K (.ref D) us = some b ∧ Q (.bl b) H
section
variable {X : Cx} {K : PySem.W.Frag}
theorem isx_at {pins : List (Addr × Obj)} {σ : L2.St} {H : Hp} {s : Shared} {a D : Addr} (I : Inv X pins σ H s) (x : IsEx H a (.ref D)) : ∃ ob, PySem.W.InstAt s.heap a ob D none := by
  obtain ⟨φ, e, q⟩ := x
  obtain ⟨ob, fs, e1, ⟨z1, z2⟩, d1⟩ := q _ (I.hok a _ e).1
  obtain ⟨oc, od, dt, sl⟩ := ob
  dsimp only at z1 z2 d1
  subst z1 z2 d1
  exact ⟨_, e1, rfl, rfl, trivial⟩
theorem k_isX (hK : X.K = K) : CallR X (.builtin "isinstance") (rIsX K) := by
  subst hK
  intro pins s σ H xs us Q I r h
  obtain ⟨a, D, c, cv, b, rfl, x, C, k, e, q⟩ := h
  obtain ⟨u1, u2, rfl, r1, r2⟩ := vals2 r
  obtain rfl : u1 = Value.ref a := r1
  obtain rfl := k.eq r2
  obtain ⟨ob, J⟩ := isx_at I x
  exact PySem.W.kia_one (PySem.W.handS_kitx_exc C.hg C.hk C.hs C.hd C.ha C.hn C.ht C.hm) I.kIn J e (fun z => nomatch z) fun tk => ⟨.bl b, H, I.tok tk, rfl, q⟩
theorem k_isXT (hK : X.K = K) : CallR X (.builtin "isinstance") (rIsXT K) := by
  subst hK
  intro pins s σ H xs us Q I r h
  obtain ⟨a, D, tp, cs, ws, b, rfl, x, C, hT, k, e, q⟩ := h
  obtain ⟨u1, u2, rfl, r1, r2⟩ := vals2 r
  obtain rfl : u1 = Value.ref a := r1
  obtain rfl : u2 = Value.ref tp := r2
  obtain ⟨ob, J⟩ := isx_at I x
  obtain ⟨_, its, rv, o, h1, h2, m, h3⟩ := (I.hok tp _ hT : ObjOk X.prog X.w H s.heap tp (.tup cs))
  obtain rfl := ClsV.all k rv
  obtain ⟨oc, od, dt, sl⟩ := o
  dsimp only at h2 h3
  subst h2 h3
  exact PySem.W.kia_tup (PySem.W.handS_kitx_exc C.hg C.hk C.hs C.hd C.ha C.hn C.ht C.hm) I.kIn J h1 e (fun z => nomatch z) fun tk => ⟨.bl b, H, I.tok tk, rfl, q⟩
end
/-! ### defs that may be called while an exception is handled -/
structure FnU (P : Program) (w : World) (K : PySem.W.Frag) (mg : Str → Option Value) (base : Heap) (k : Nat) (f : Addr) (fd : FuncData) (ps : List Str) (sp : Sp) : Prop where
  size : ∀ vs H Q E, sp vs H Q E → vs.length = ps.length
  go : ∀ (A : Around) (outer : List Env) (s : Shared) (H : Hp) (args : Args) (us : List Value) (vs : List V) (Q : VK) (E : XK), L2H.RoomH k A → Env0 P w K mg base A outer s H →
    BindsTo s fd args (ps.zip us) → Vals vs us → sp vs H Q E → codeAny (model P w) A (.call (.ref f) args) (CR CX0 outer P w H s Q E) s
/-- the context of such a def's body -/
def cxU (P : Program) (w : World) (K : PySem.W.Frag) (mg : Str → Option Value) (base : Heap) (N : List Str) (qual : Str) (scope : Scope) (f : Addr) (cd : Value) (A : Around) (outer : List Env) (s : Shared) (H : Hp) (E : XK) : Cx :=
  { cxOf CX0 P w K mg base N qual scope f cd A outer s H E with calm := false }
section
variable {P : Program} {w : World} {K : PySem.W.Frag} {mg : Str → Option Value} {base : Heap} {k : Nat} {f : Addr} {fd : FuncData} {ps : List Str} {sp : Sp}
theorem fun_okU {x qual : Str} {st : Stmt} {N : List Str} (F : Fun K x qual st f fd) (S : FnScope N ps (defScope st)) (size : ∀ vs H Q E, sp vs H Q E → vs.length = ps.length)
    (body : ∀ (cdv : Value) (A : Around) (outer : List Env) (s : Shared) (H : Hp) (vs : List V) (Q : VK) (E : XK), L2H.RoomH k (A.deeper (envOfC qual (defScope st) s.heap.objs.size f cdv)) → sp vs H Q E →
      ∃ t, PSs (cxU P w K mg base N qual (defScope st) f cdv A outer s H E) (defBody st) t ∧ t { nx := fun _ H' => Q .non H', rt := Q } (start N vs) H) : FnU P w K mg base (k + 1) f fd ps sp := by
  obtain ⟨oc, od, kV, doc, pm, an, cdv, ct, osl, rfl, lk, hcd⟩ := F.ex
  refine ⟨size, fun A outer s H args us vs Q E room env bind vals prom => ?_⟩
  have inK : K.In s.heap := env.mod.kin.keeps fun b o q => (env.bs b o q).1
  have loose : s.heap.NoLimit := env.mod.nolimit.keeps fun b o q => (env.bs b o q).1
  have kinds : ∀ z ∈ ps.zip us, (defScope st).names.lookup z.1 = some .local ∨ ((defScope st).names.lookup z.1 = some .cell ∧ ((cellsFrom (s.heap.objs.size + 1) (defScope st).names []).lookup z.1).isSome = true) := by
    rintro ⟨n, v⟩ hz
    have hn := (List.of_mem_zip hz).1
    rcases S.par n hn with h | h
    · exact Or.inl h
    · exact Or.inr ⟨h, PySem.W.cellsFrom_some _ _ _ (Or.inl h)⟩
  refine codeAny_call_function room.depth (inK _ _ lk) rfl S.co S.gen rfl (PySem.W.codeRec_of inK hcd) (bind _ _ _ _ ?_)
  refine wpAny_newFunctionEnv_cells S.kind kinds fun env' e1 s1 into => ?_
  subst e1
  refine ⟨loose.keeps into.toInCall.keep, codeAny_func ?_⟩
  obtain ⟨t, deriv, read⟩ := body cdv A outer s H vs Q E (room.deeper _) prom
  have env1 : Env0 P w K mg base { A with handled := none } outer s H := ⟨env.frames, env.mod, env.bs, env.bsz, env.funs, env.frf, env.hok, env.bare⟩
  have I0 := inv_start (CX := CX0) (E := E) (A := { A with handled := none }) S rfl env1 (size _ _ _ _ prom) vals into
  have I : Inv (cxU P w K mg base N qual (defScope st) f cdv A outer s H E) [] (start N vs) H s1 :=
    ⟨⟨I0.ok.mod, I0.ok.kind, I0.ok.glob, I0.ok.blt, I0.ok.above, I0.ok.inj, I0.ok.has, I0.ok.cab, (fun z => absurd (show false = true from z) Bool.false_ne_true), I0.ok.frames, I0.ok.stk, I0.ok.exf, I0.ok.bs, I0.ok.bsz, I0.ok.noex, I0.ok.exfs, I0.ok.funs, I0.ok.frf⟩,
      I0.os, I0.bare, I0.base, I0.loc, I0.cell, I0.free, I0.freeC, I0.pin, I0.hok, I0.len⟩
  refine wpAny_mono (deriv.run [] s1 (start N vs) H _ I read) (fun flow s' ends => ?_) fun _ _ q => q
  have done : ∀ {σ2 : L2.St} {H2 : Hp} {v : V} {u : Value}, Inv (cxU P w K mg base N qual (defScope st) f cdv A outer s H E) [] σ2 H2 s' → RelV v u → Q v H2 → CE outer P w H s Q u s' := by
    intro σ2 H2 v u J rel q
    exact ⟨v, H2, J.os, J.bare, J.base, J.hok, rel, q⟩
  match flow, ends with
  | .ret u, ends =>
    obtain ⟨v, σ2, H2, J, rel, q⟩ := ends
    exact done J rel q
  | .next, ends =>
    obtain ⟨σ2, H2, J, q⟩ := ends
    exact done (v := V.non) (u := Value.none) J rfl q
  | .brk, ends =>
    obtain ⟨_, _, _, q⟩ := ends
    exact q.elim
  | .cont, ends =>
    obtain ⟨_, _, _, q⟩ := ends
    exact q.elim
end
section
variable {X : Cx} {k : Nat} {f : Addr} {fd : FuncData} {ps : List Str} {sp : Sp} {E : XK} {x : Str} {p pos : Pos} {e : Expr} {es : List Expr} {t : TA}
theorem pe_callU (F : FnU X.prog X.w X.K X.mg X.base k f fd ps sp) (hr : L2H.RoomH k X.A) (hg : Gl X x) (hm : X.mg x = some (.ref f)) (hk : PySem.W.keepIn X.K (.ref f) = true) (hb : Binds X.K fd ps []) (hx : Passes CX0 X E)
    (ha : PA X (e :: es) t) (hdb : (x == ("__debug__" : Str)) = false := by decide) (he : starEach (e :: es) X.env = (false, eval e X.env) :: starEach es X.env := by rfl) (hpl : (backTo pos (starEach es X.env)).any (·.1) = false := by rfl) :
    PE X (.Call (.Name x p) (e :: es) [] pos) (tCall sp [] E t) := by
  constructor
  intro pins s σ H Q I h
  have args := ha.run pos pins s σ H _ I h
  refine wpAny_Call_Name_kw (ld_glob I hg hm (PySem.W.callWith_K (h₀ := X.base) I.ok.mod.kin hk (thn args ?_) he hpl) hdb)
  rintro us s1 ⟨vs, H1, I1, r, q⟩
  rw [List.append_nil] at q
  refine ⟨I1.kIn, ?_⟩
  have many : (us ++ []).length = ps.length := by rw [List.append_nil]; exact r.length.symm.trans (F.size _ _ _ _ q)
  have bs := hb s1 us I1.kIn many
  rw [List.append_nil] at bs
  have run := F.go X.A X.stack s1 H1 ⟨us, []⟩ us vs Q E hr I1.env0 bs r q
  refine wpAny_call (codeAny_mono run fun res s' z => ?_)
  match res, z with
  | .error err, z => exact hx pins σ H1 s1 err s' I1 z
  | .ok (.ret u), z => exact I1.after z
end
end BC
namespace BC
open PySem PySem.Spec PyProof.Rows L2
theorem roomM {k : Nat} {A : Around} {v : Option Value} (r : L2H.RoomH k A) : L2H.RoomH k (A.mark v) := ⟨r.dp, r.un⟩
/-- own classes ahead of ValueError's -/
def MroIs (K : PySem.W.Frag) (C : Addr) (l : List Addr) : Prop := ∃ cd, PySem.W.clsIn K C = some cd ∧ cd.mro = l.map Value.ref ++ HandSPX.veTail
theorem own_has {l : List Addr} {D : Addr} : (l.map Value.ref ++ HandSPX.veTail).contains (.ref D) = decide (D ∈ l) := by
  induction l with
  | nil => rfl
  | cons a l ih =>
    rw [List.map_cons, List.cons_append, List.contains_cons, ih]
    by_cases e : D = a
    · subst e; simp
    · have : (Value.ref D == Value.ref a) = false := by simpa using e
      rw [this, Bool.false_or]
      simp [e]
theorem mro_sub {K : PySem.W.Frag} {C : Addr} {l : List Addr} (m : MroIs K C l) (v : Value) : PySem.W.subIn K (.ref C) v = some ((l.map Value.ref ++ HandSPX.veTail).contains v) := by
  obtain ⟨cd, h1, h2⟩ := m
  show PySem.W.mroIn K C v = _
  unfold PySem.W.mroIn
  rw [h1]
  show (if cd.mro.isEmpty = true then none else some (cd.mro.contains v)) = _
  rw [h2, if_neg (by cases l <;> simp [HandSPX.veTail])]
/-- isinstance of own exceptions, among each other -/
theorem kit_own {K : PySem.W.Frag} {C D : Addr} {l l2 : List Addr} (m : MroIs K C l) (m2 : MroIs K D l2) (t : PySem.W.typeIn K (.ref D) = some (.type "type")) (hC : C ∈ l) : PySem.W.kitOne K (.ref C) (.ref D) = some (decide (D ∈ l)) := by
  unfold PySem.W.kitOne
  by_cases e : C = D
  · subst e
    rw [if_pos (by simp), decide_eq_true hC]
  · have : (Value.ref C == Value.ref D) = false := by simpa using e
    rw [this, if_neg Bool.false_ne_true]
    obtain ⟨cd2, k1, _⟩ := id m2
    show (if ((PySem.W.clsIn K D).isSome && PySem.W.typeIn K (.ref D) == some (.type "type")) = true then PySem.W.subIn K (.ref C) (.ref D) else none) = _
    rw [k1, t, if_pos (by rfl), mro_sub m, own_has]
theorem kit_ve {K : PySem.W.Frag} {C : Addr} {l : List Addr} (m : MroIs K C l) : PySem.W.kitOne K (.ref C) (.type "ValueError") = some true := by
  unfold PySem.W.kitOne
  rw [if_neg (by simp)]
  show (if PySem.W.kitMeta "ValueError" = true then PySem.W.subIn K (.ref C) (.type "ValueError") else none) = _
  rw [if_pos (by decide +kernel), mro_sub m]
  congr 1
  clear m
  induction l with
  | nil => rfl
  | cons a l ih => rw [List.map_cons, List.cons_append, List.contains_cons, ih, Bool.or_true]
/-- an own class in an except clause -/
theorem exm_own {K : PySem.W.Frag} {C D : Addr} {l : List Addr} (m : MroIs K C l) (e : ExcC K D) (t : PySem.W.typeIn K (.ref D) = some (.type "type")) : PySem.W.exmOne K (.ref C) (.ref D) = some (decide (D ∈ l)) :=
  PySem.W.exm_ref e.hs e.hd t (by rw [mro_sub m, own_has])
theorem exm_yes {K : PySem.W.Frag} {C D : Addr} {l : List Addr} (m : MroIs K C l) (e : ExcC K D) (t : PySem.W.typeIn K (.ref D) = some (.type "type")) (h : D ∈ l) : PySem.W.exmOne K (.ref C) (.ref D) = some true := by rw [exm_own m e t, decide_eq_true h]
theorem kitAny_cons' {K : PySem.W.Frag} {t c : Value} {cs : List Value} {b r : Bool} (h : PySem.W.kitOne K t c = some b) (hr : PySem.W.kitAny K t cs = some r) : PySem.W.kitAny K t (c :: cs) = some (b || r) := by
  unfold PySem.W.kitAny
  rw [h]
  cases b with
  | true => rfl
  | false => rw [Bool.false_or]; exact hr
section
variable {σ : L2.St} {H : Hp} {Q : VK} {t : TA} {sp : Sp} {E : L2.St → XK}
theorem x_callS : tCallS sp E t σ H Q = t σ H fun vs H1 => sp vs H1 Q (E σ) := rfl
end
end BC

set_option Elab.async false
set_option linter.all false
set_option maxRecDepth 100000
set_option maxHeartbeats 4000000
/-! a call of a def that an expression chooses: [f, g][i](..) -/
namespace BC
open PySem PySem.Spec PyProof.Rows L2
section
variable {X : Cx} {CX : CXT} {k1 k2 : Nat} {f1 f2 : Addr} {fd1 fd2 : FuncData} {ps1 ps2 : List Str} {sp1 sp2 : Sp} {E : L2.St → XK} {fe e : Expr} {es : List Expr} {tf : TE} {t : TA} {pos : Pos}
/-- one of two defs is called; what it raises is wished for at the caller's slots -/
def tCallF2 (f1 f2 : Addr) (sp1 sp2 : Sp) (E : L2.St → XK) (tf : TE) (t : TA) : TE := fun σ H Q => tf σ H fun x H1 => (x = .ref f1 ∧ t σ H1 fun vs H2 => sp1 vs H2 Q (E σ)) ∨ (x = .ref f2 ∧ t σ H1 fun vs H2 => sp2 vs H2 Q (E σ))
theorem x_callF2 {σ : L2.St} {H : Hp} {Q : VK} : tCallF2 f1 f2 sp1 sp2 E tf t σ H Q = tf σ H fun x H1 => (x = .ref f1 ∧ t σ H1 fun vs H2 => sp1 vs H2 Q (E σ)) ∨ (x = .ref f2 ∧ t σ H1 fun vs H2 => sp2 vs H2 Q (E σ)) := rfl
theorem pe_callF2 (hf : PE X fe tf) (F1 : FnOk X.prog X.w X.K X.mg X.base CX k1 f1 fd1 ps1 sp1) (r1 : Room k1 X.A) (kp1 : PySem.W.keepIn X.K (.ref f1) = true) (b1 : Binds X.K fd1 ps1 [])
    (F2 : FnOk X.prog X.w X.K X.mg X.base CX k2 f2 fd2 ps2 sp2) (r2 : Room k2 X.A) (kp2 : PySem.W.keepIn X.K (.ref f2) = true) (b2 : Binds X.K fd2 ps2 []) (hx : ∀ σ, PassesAt CX X σ (E σ)) (ha : PA X (e :: es) t)
    (ht : eval (.Call fe (e :: es) [] pos) X.env = (do callWith pos (← eval fe X.env) [] (backTo pos (starEach (e :: es) X.env)) (backToKw pos (keywordEach [] X.env))) := by rfl)
    (he : starEach (e :: es) X.env = (false, eval e X.env) :: starEach es X.env := by rfl) (hpl : (backTo pos (starEach es X.env)).any (·.1) = false := by rfl) :
    PE X (.Call fe (e :: es) [] pos) (tCallF2 f1 f2 sp1 sp2 E tf t) := by
  constructor
  intro pins s σ H Q I h
  refine Call_ (thn (hf.run pins s σ H _ I h) fun u s1 ⟨x, H1, I1, rx, q⟩ => ?_) ht
  rcases q with ⟨rfl, q⟩ | ⟨rfl, q⟩
  · obtain rfl : u = Value.ref f1 := rx
    exact PySem.W.callWith_K (h₀ := X.base) I1.ok.mod.kin kp1 (thn (ha.run pos pins s1 σ H1 _ I1 q) fun us s2 ⟨vs, H2, I2, r, q2⟩ => ⟨I2.kIn, run_fnS F1 r1 b1 (hx σ) I2 r q2⟩) he hpl
  · obtain rfl : u = Value.ref f2 := rx
    exact PySem.W.callWith_K (h₀ := X.base) I1.ok.mod.kin kp2 (thn (ha.run pos pins s1 σ H1 _ I1 q) fun us s2 ⟨vs, H2, I2, r, q2⟩ => ⟨I2.kIn, run_fnS F2 r2 b2 (hx σ) I2 r q2⟩) he hpl
end
end BC

set_option Elab.async false
set_option linter.all false
set_option maxRecDepth 100000
set_option maxHeartbeats 4000000
/-! C(..) whose __init__ raises: what it raises is wished for at the caller's slots -/
namespace BC
open PySem PySem.Spec PyProof.Rows L2
def tMakeS (C : Addr) (sp : Sp) (E : L2.St → XK) (t : TA) : TE := fun σ H Q => t σ H fun vs H1 => ∀ x dx, H1 x = none → H1 dx = none → dx ≠ x → sp (.ref x :: vs) (upd (upd H1 dx (.own x)) x (.ins C dx [])) (fun v H2 => v = .non ∧ Q (.ref x) H2) (E σ)
theorem x_makeS {C : Addr} {sp : Sp} {E : L2.St → XK} {t : TA} {σ : L2.St} {H : Hp} {Q : VK} : tMakeS C sp E t σ H Q = t σ H fun vs H1 => ∀ x dx, H1 x = none → H1 dx = none → dx ≠ x → sp (.ref x :: vs) (upd (upd H1 dx (.own x)) x (.ins C dx [])) (fun v H2 => v = .non ∧ Q (.ref x) H2) (E σ) := rfl
def tMakeKS (C : Addr) (sp : Sp) (gV : List V → List V → List V) (E : L2.St → XK) (tk : TA) : TE := fun σ H Q => tk σ H fun zs H2 => ∀ x dx, H2 x = none → H2 dx = none → dx ≠ x →
  sp (gV [.ref x] zs) (upd (upd H2 dx (.own x)) x (.ins C dx [])) (fun v H3 => v = .non ∧ Q (.ref x) H3) (E σ)
theorem x_makeKS {C : Addr} {sp : Sp} {gV : List V → List V → List V} {E : L2.St → XK} {tk : TA} {σ : L2.St} {H : Hp} {Q : VK} : tMakeKS C sp gV E tk σ H Q = tk σ H fun zs H2 => ∀ x dx, H2 x = none → H2 dx = none → dx ≠ x →
  sp (gV [.ref x] zs) (upd (upd H2 dx (.own x)) x (.ins C dx [])) (fun v H3 => v = .non ∧ Q (.ref x) H3) (E σ) := rfl
section
variable {X : Cx} {CX : CXT} {k : Nat} {f C : Addr} {fd : FuncData} {ps ks : List Str} {sp : Sp} {E : L2.St → XK} {x : Str} {p pos : Pos} {e : Expr} {es : List Expr} {kws : List Keyword} {t tk : TA} {g : List Value → List Value → List Value} {gV : List V → List V → List V}
theorem run_makeS {pins : List (Addr × Obj)} {σ : L2.St} {H : Hp} {s : Shared} {Q : VK} {us : List Value} {vs : List V} (M : Mk X.K C f) (F : FnOk X.prog X.w X.K X.mg X.base CX k f fd ps sp) (hr : Room (k + 1) X.A) (hb : Binds X.K fd ps [])
    (hx : PassesAt CX X σ (E σ)) (I : Inv X pins σ H s) (r : Vals vs us)
    (h : ∀ x dx, H x = none → H dx = none → dx ≠ x → sp (.ref x :: vs) (upd (upd H dx (.own x)) x (.ins C dx [])) (fun v H2 => v = .non ∧ Q (.ref x) H2) (E σ)) :
    wpAny (model X.prog X.w) X.A (call (.ref C) us) (EP X pins σ Q) X.xe s := by
  have hq := h (s.heap.objs.size + 1) s.heap.objs.size (I.hok.fresh (Nat.le_succ _)) (I.hok.fresh (Nat.le_refl _)) (Nat.ne_of_lt (Nat.lt_succ_self _))
  have I2 := Inv.made (C := C) I
  have r2 : Vals (V.ref (s.heap.objs.size + 1) :: vs) (Value.ref (s.heap.objs.size + 1) :: us) := .cons rfl r
  have hl : (Value.ref (s.heap.objs.size + 1) :: us ++ ([] : List Value)).length = ps.length := by
    have e := r2.length
    rw [F.len _ _ _ _ hq] at e
    rw [List.append_nil]
    exact e.symm
  have b := hb _ (Value.ref (s.heap.objs.size + 1) :: us) I2.kIn hl
  rw [List.append_nil] at b
  refine wpAny_call (make_map (f := f) I.kIn M.makes M.init (beq_iff_eq.mp M.fn) (codeAny_mono (F.run _ X.stack _ _ ⟨Value.ref (s.heap.objs.size + 1) :: us, []⟩ (Value.ref (s.heap.objs.size + 1) :: us) _ _ (E σ) (hr.make C us [])
    (I2.env0.make C us []) b r2 hq) fun r s' hq' => ?_))
  cases r with
  | error e => exact hx pins _ _ e s' I2 hq'
  | ok fl =>
    cases fl with
    | ret u =>
      obtain ⟨v, H', I3, rv, ev, q3⟩ := I2.after hq'
      subst ev
      exact ⟨rv, ⟨V.ref (s.heap.objs.size + 1), H', I3, rfl, q3⟩⟩
    | next => exact False.elim hq'
    | brk => exact False.elim hq'
    | cont => exact False.elim hq'
theorem pe_makeS (M : Mk X.K C f) (F : FnOk X.prog X.w X.K X.mg X.base CX k f fd ps sp) (hr : Room (k + 1) X.A) (hg : Gl X x) (hm : X.mg x = some (.ref C)) (hb : Binds X.K fd ps []) (hx : ∀ σ, PassesAt CX X σ (E σ))
    (ha : PA X (e :: es) t) (hdb : (x == ("__debug__" : Str)) = false := by decide) (he : starEach (e :: es) X.env = (false, eval e X.env) :: starEach es X.env := by rfl) (hpl : (backTo pos (starEach es X.env)).any (·.1) = false := by rfl) :
    PE X (.Call (.Name x p) (e :: es) [] pos) (tMakeS C sp E t) := by
  refine ⟨fun pins s σ H Q I h => ?_⟩
  refine wpAny_Call_Name_kw (ld_glob I hg hm ?_ hdb)
  refine PySem.W.callWith_K (h₀ := X.base) I.ok.mod.kin M.kp (thn (ha.run pos pins s σ H _ I h) fun us s1 ⟨vs, H1, I1, r, q⟩ => ⟨I1.kIn, ?_⟩) he hpl
  exact run_makeS M F hr hb (hx σ) I1 r q
theorem run_makeKS {pins : List (Addr × Obj)} {σ : L2.St} {H : Hp} {s : Shared} {Q : VK} {ws : List Value} {zs : List V} (M : Mk X.K C f) (F : FnOk X.prog X.w X.K X.mg X.base CX k f fd ps sp) (hr : Room (k + 1) X.A) (hb : KBinds X.K fd ps ks g gV) (hx : PassesAt CX X σ (E σ))
    (I : Inv X pins σ H s) (rz : Vals zs ws)
    (h : ∀ x dx, H x = none → H dx = none → dx ≠ x → sp (gV [.ref x] zs) (upd (upd H dx (.own x)) x (.ins C dx [])) (fun v H2 => v = .non ∧ Q (.ref x) H2) (E σ)) :
    wpAny (model X.prog X.w) X.A (call (.ref C) [] (ks.zip ws)) (EP X pins σ Q) X.xe s := by
  have hq := h (s.heap.objs.size + 1) s.heap.objs.size (I.hok.fresh (Nat.le_succ _)) (I.hok.fresh (Nat.le_refl _)) (Nat.ne_of_lt (Nat.lt_succ_self _))
  have I2 := Inv.made (C := C) I
  have r1 : Vals [V.ref (s.heap.objs.size + 1)] [Value.ref (s.heap.objs.size + 1)] := .cons rfl .nil
  have r2 := hb.rel r1 rz
  have hl : (g [Value.ref (s.heap.objs.size + 1)] ws).length = ps.length := by rw [← r2.length]; exact F.len _ _ _ _ hq
  refine wpAny_call (make_map (f := f) I.kIn M.makes M.init (beq_iff_eq.mp M.fn) (codeAny_mono (F.run _ X.stack _ _ ⟨[Value.ref (s.heap.objs.size + 1)], ks.zip ws⟩ (g [Value.ref (s.heap.objs.size + 1)] ws) _ _ (E σ) (hr.make C [] (ks.zip ws))
    (I2.env0.make C [] (ks.zip ws)) (hb.to _ [Value.ref (s.heap.objs.size + 1)] ws I2.kIn hl) r2 hq) fun r s' hq' => ?_))
  cases r with
  | error e => exact hx pins _ _ e s' I2 hq'
  | ok fl =>
    cases fl with
    | ret u =>
      obtain ⟨v, H', I3, rv, ev, q3⟩ := I2.after hq'
      subst ev
      exact ⟨rv, ⟨V.ref (s.heap.objs.size + 1), H', I3, rfl, q3⟩⟩
    | next => exact False.elim hq'
    | brk => exact False.elim hq'
    | cont => exact False.elim hq'
/-- C(k = v, ..) -/
theorem pe_makeKS0 (M : Mk X.K C f) (F : FnOk X.prog X.w X.K X.mg X.base CX k f fd ps sp) (hr : Room (k + 1) X.A) (hg : Gl X x) (hm : X.mg x = some (.ref C)) (hb : KBinds X.K fd ps ks g gV) (hx : ∀ σ, PassesAt CX X σ (E σ)) (hkw : PK X kws tk)
    (hall : (backToKw pos (keywordEach kws X.env)).all (·.1.isSome) = true := by rfl) (hks : (backToKw pos (keywordEach kws X.env)).filterMap (·.1) = ks := by rfl) (hdb : (x == ("__debug__" : Str)) = false := by decide)
    (hpl : ((backTo pos (starEach [] X.env)).any (·.1) || (backToKw pos (keywordEach kws X.env)).any (·.1.isNone)) = false := by rfl) :
    PE X (.Call (.Name x p) [] kws pos) (tMakeKS C sp gV E tk) := by
  refine ⟨fun pins s σ H Q I h => ?_⟩
  refine wpAny_Call_Name_kw (ld_glob I hg hm ?_ hdb)
  refine PySem.W.callWith_KW0 (h₀ := X.base) I.ok.mod.kin M.kp hall ?_ hpl
  refine thn (hkw.run pos pins s σ H _ I h) fun ws s2 ⟨zs, H2, I2, rz, q2⟩ => ⟨I2.kIn, ?_⟩
  rw [hks]
  exact run_makeKS M F hr hb (hx σ) I2 rz q2
end
theorem k_sortedP {X : Cx} {K : PySem.W.Frag} (hK : X.K = K) : CallR X (.builtin "sorted") (rSortedPO K) := by subst hK; exact cr_sortedPO
end BC

set_option Elab.async false
set_option linter.all false
set_option maxRecDepth 100000
set_option maxHeartbeats 4000000
/-! effects of visits: for each page its exit -/
namespace EF
open PySem PySem.Spec PyProof.Rows L2 BC TR
/-- the exit of a page: what comes behind its last visit -/
def nx : List Int → Int → Option Int
  | [], _ => none
  | a :: r, p => match nx r p with
    | some y => some y
    | none => if a = p then some (r.headD a) else none
theorem nx_some {a p y : Int} {r : List Int} (h : nx r p = some y) : nx (a :: r) p = some y := by
  show (match nx r p with | some y => some y | none => _) = _
  rw [h]
theorem nx_none {a p : Int} {r : List Int} (h : nx r p = none) : nx (a :: r) p = if a = p then some (r.headD a) else none := by
  show (match nx r p with | some y => some y | none => _) = _
  rw [h]
theorem nx_mem : ∀ {row : List Int} {p : Int}, p ∈ row → ∃ y, nx row p = some y
  | a :: r, p, h => by
    cases e : nx r p with
    | some y => exact ⟨y, nx_some e⟩
    | none =>
      rcases List.mem_cons.mp h with rfl | h
      · exact ⟨_, by rw [nx_none e, if_pos rfl]⟩
      · obtain ⟨y, hy⟩ := nx_mem h
        rw [e] at hy
        cases hy
theorem headD_mem {a : Int} : ∀ {r : List Int}, r.headD a ∈ a :: r
  | [] => List.mem_cons_self
  | b :: r => List.mem_cons_of_mem _ List.mem_cons_self
theorem mem_nx : ∀ {row : List Int} {p y : Int}, nx row p = some y → p ∈ row ∧ y ∈ row
  | a :: r, p, y, h => by
    cases e : nx r p with
    | some z =>
      rw [nx_some e] at h
      cases h
      obtain ⟨h1, h2⟩ := mem_nx e
      exact ⟨List.mem_cons_of_mem _ h1, List.mem_cons_of_mem _ h2⟩
    | none =>
      rw [nx_none e] at h
      split at h
      · next q =>
        cases h
        subst q
        exact ⟨List.mem_cons_self, headD_mem⟩
      · cases h
/-- the pages by their last visits -/
def dd : List Int → List Int
  | [] => []
  | a :: r => if a ∈ r then dd r else a :: dd r
theorem dd_mem : ∀ {row : List Int} {p : Int}, p ∈ dd row ↔ p ∈ row
  | [], p => Iff.rfl
  | a :: r, p => by
    unfold dd
    split
    · next h =>
      rw [dd_mem (row := r), List.mem_cons]
      exact ⟨fun m => .inr m, fun m => m.elim (fun e => by rw [e]; exact h) id⟩
    · rw [List.mem_cons, List.mem_cons, dd_mem (row := r)]
theorem dd_nodup : ∀ row : List Int, (dd row).Nodup
  | [] => List.nodup_nil
  | a :: r => by
    unfold dd
    split
    · exact dd_nodup r
    · next h => exact List.nodup_cons.mpr ⟨fun m => h (dd_mem.mp m), dd_nodup r⟩
def ix (row : List Int) (p : Int) : Nat := (dd row).idxOf p
theorem ix_lt {row : List Int} {p : Int} (h : p ∈ row) : ix row p < (dd row).length := List.idxOf_lt_length_of_mem (dd_mem.mpr h)
/-- the last page -/
def lst (row : List Int) : Int := row.getLast?.getD 0
theorem lst_cons {a b : Int} {r : List Int} : lst (a :: b :: r) = lst (b :: r) := by unfold lst; rw [List.getLast?_cons_cons]
theorem nx_ix : ∀ {row : List Int} {p y : Int}, nx row p = some y → (y = p ∧ p = lst row) ∨ (p ≠ y ∧ p ≠ lst row ∧ ix row p < ix row y)
  | a :: r, p, y, h => by
    cases e : nx r p with
    | some z =>
      rw [nx_some e] at h
      cases h
      obtain ⟨hp, hy⟩ := mem_nx e
      obtain ⟨b, r', rfl⟩ : ∃ b r', r = b :: r' := by
        cases r with
        | nil => cases hp
        | cons b r' => exact ⟨b, r', rfl⟩
      rw [lst_cons]
      rcases nx_ix e with ⟨h1, h2⟩ | ⟨h1, h2, h3⟩
      · exact .inl ⟨h1, h2⟩
      · refine .inr ⟨h1, h2, ?_⟩
        unfold ix dd
        split
        · exact h3
        · next na =>
          have pa : ¬ a = p := fun e => na (by rw [e]; exact hp)
          have ya : ¬ a = y := fun e => na (by rw [e]; exact hy)
          rw [List.idxOf_cons, List.idxOf_cons, beq_eq_false_iff_ne.mpr pa, beq_eq_false_iff_ne.mpr ya]
          show (dd (b :: r')).idxOf p + 1 < (dd (b :: r')).idxOf y + 1
          unfold ix at h3
          omega
    | none =>
      rw [nx_none e] at h
      split at h
      · next q =>
        subst q
        cases h
        have na : a ∉ r := fun m => by
          obtain ⟨z, hz⟩ := nx_mem m
          rw [e] at hz
          cases hz
        cases r with
        | nil => exact .inl ⟨rfl, rfl⟩
        | cons b r' =>
          have ab : a ≠ b := fun z => na (by rw [z]; exact List.mem_cons_self)
          refine .inr ⟨ab, ?_, ?_⟩
          · rw [lst_cons]
            intro z
            refine na ?_
            rw [z]
            unfold lst
            rw [List.getLast?_eq_some_getLast (by simp)]
            exact List.getLast_mem _
          · unfold ix dd
            rw [if_neg na, List.idxOf_cons_self, List.idxOf_cons, beq_eq_false_iff_ne.mpr (show ¬ a = (b :: r').headD a from ab)]
            exact Nat.succ_pos _
      · cases h
theorem lst_mem : ∀ {row : List Int}, row ≠ [] → lst row ∈ row := fun {row} h => by
  unfold lst
  rw [List.getLast?_eq_some_getLast h]
  exact List.getLast_mem h
theorem nx_lst {row : List Int} (h : row ≠ []) : nx row (lst row) = some (lst row) := by
  obtain ⟨y, hy⟩ := nx_mem (lst_mem h)
  rcases nx_ix hy with ⟨h1, _⟩ | ⟨_, h2, _⟩
  · rw [hy, h1]
  · exact absurd rfl h2
/-- do so many steps lead to the root? -/
def lead (f : Int → Int) (root : Int) : Nat → Int → Bool
  | 0, _ => false
  | n + 1, p => if p = root then true else lead f root n (f p)
def nxt (row : List Int) (p : Int) : Int := (nx row p).getD 0
theorem nxt_at {row : List Int} {p y : Int} (h : nx row p = some y) : nxt row p = y := by unfold nxt; rw [h]; rfl
theorem lead_ok {row : List Int} : ∀ (n : Nat) {p : Int}, p ∈ row → (dd row).length ≤ n + ix row p → lead (nxt row) (lst row) n p = true
  | 0, p, hp, h => by have := ix_lt hp; omega
  | n + 1, p, hp, h => by
    show (if p = lst row then true else _) = true
    split
    · rfl
    · next ne =>
      obtain ⟨y, hy⟩ := nx_mem hp
      rw [nxt_at hy]
      rcases nx_ix hy with ⟨_, h2⟩ | ⟨_, _, h3⟩
      · exact absurd h2 ne
      · exact lead_ok n (mem_nx hy).2 (by omega)
/-! ### as a list of pairs in order -/
def exs (row : List Int) : List (Int × Int) := ((List.range 40).map fun i : Nat => (i : Int)).filterMap fun p => (nx row p).map fun y => (p, y)
theorem mem_exs {row : List Int} (hp : Pg 40 row) {x y : Int} : (x, y) ∈ exs row ↔ nx row x = some y := by
  unfold exs
  rw [List.mem_filterMap]
  constructor
  · rintro ⟨p, _, h⟩
    cases e : nx row p with
    | none => rw [e] at h; cases h
    | some z => rw [e] at h; cases h; exact e
  · intro h
    have hx := hp x (mem_nx h).1
    refine ⟨x, List.mem_map.mpr ⟨x.toNat, List.mem_range.mpr (by omega), by omega⟩, ?_⟩
    rw [h]
    rfl
def ltF (a b : Int × Int) : Prop := a.1 < b.1
theorem exs_srt (row : List Int) : (exs row).Pairwise ltF := by
  unfold exs
  rw [List.pairwise_filterMap]
  have : ((List.range 40).map fun i : Nat => (i : Int)).Pairwise (· < ·) := by
    rw [List.pairwise_map]
    exact List.pairwise_lt_range.imp fun h => by omega
  refine this.imp fun {a b} h x hx y hy => ?_
  have ex : x.1 = a := by
    cases e : nx row a with
    | none => rw [e] at hx; cases hx
    | some z => rw [e] at hx; cases hx; rfl
  have ey : y.1 = b := by
    cases e : nx row b with
    | none => rw [e] at hy; cases hy
    | some z => rw [e] at hy; cases hy; rfl
  show x.1 < y.1
  rw [ex, ey]
  exact h
theorem srt_nodup {l : List (Int × Int)} (h : l.Pairwise ltF) : (l.map (·.1)).Nodup := by
  rw [List.nodup_iff_pairwise_ne, List.pairwise_map]
  exact h.imp fun {a b} h e => by
    have : a.1 < b.1 := h
    omega
/-- two lists in order with the same members -/
theorem srt_uniq : ∀ {l m : List (Int × Int)}, l.Pairwise ltF → m.Pairwise ltF → (∀ q, q ∈ l ↔ q ∈ m) → l = m
  | [], [], _, _, _ => rfl
  | [], b :: m, _, _, h => (List.not_mem_nil ((h b).mpr List.mem_cons_self)).elim
  | a :: l, [], _, _, h => (List.not_mem_nil ((h a).mp List.mem_cons_self)).elim
  | a :: l, b :: m, hl, hm, h => by
    rw [List.pairwise_cons] at hl hm
    have e : a = b := by
      have h1 := (h a).mp List.mem_cons_self
      have h2 := (h b).mpr List.mem_cons_self
      rcases List.mem_cons.mp h1 with h1 | h1
      · exact h1
      · rcases List.mem_cons.mp h2 with h2 | h2
        · exact h2.symm
        · have a1 : b.1 < a.1 := hm.1 a h1
          have a2 : a.1 < b.1 := hl.1 b h2
          omega
    subst e
    have ne : ∀ {k : List (Int × Int)}, (∀ q ∈ k, ltF a q) → a ∉ k := fun hk m => by
      have : a.1 < a.1 := hk a m
      omega
    rw [srt_uniq hl.2 hm.2 fun q => ?_]
    have hq := h q
    rw [List.mem_cons, List.mem_cons] at hq
    by_cases c : q = a
    · subst c
      exact ⟨fun m => absurd m (ne hl.1), fun m => absurd m (ne hm.1)⟩
    · exact ⟨fun m => (hq.mp (.inr m)).resolve_left c, fun m => (hq.mpr (.inr m)).resolve_left c⟩
/-- numbers in order with the same members -/
theorem ints_uniq : ∀ {l m : List Int}, l.Pairwise (· < ·) → m.Pairwise (· < ·) → (∀ q, q ∈ l ↔ q ∈ m) → l = m
  | [], [], _, _, _ => rfl
  | [], b :: m, _, _, h => (List.not_mem_nil ((h b).mpr List.mem_cons_self)).elim
  | a :: l, [], _, _, h => (List.not_mem_nil ((h a).mp List.mem_cons_self)).elim
  | a :: l, b :: m, hl, hm, h => by
    rw [List.pairwise_cons] at hl hm
    have e : a = b := by
      have h1 := (h a).mp List.mem_cons_self
      have h2 := (h b).mpr List.mem_cons_self
      rcases List.mem_cons.mp h1 with h1 | h1
      · exact h1
      · rcases List.mem_cons.mp h2 with h2 | h2
        · exact h2.symm
        · have a1 := hm.1 a h1
          have a2 := hl.1 b h2
          omega
    subst e
    have ne : ∀ {k : List Int}, (∀ q ∈ k, a < q) → a ∉ k := fun hk m => by
      have := hk a m
      omega
    rw [ints_uniq hl.2 hm.2 fun q => ?_]
    have hq := h q
    rw [List.mem_cons, List.mem_cons] at hq
    by_cases c : q = a
    · subst c
      exact ⟨fun m => absurd m (ne hl.1), fun m => absurd m (ne hm.1)⟩
    · exact ⟨fun m => (hq.mp (.inr m)).resolve_left c, fun m => (hq.mpr (.inr m)).resolve_left c⟩
/-! ### a dict of numbers by numbers -/
def getI (qs : List (Int × Int)) (x : Int) : Option Int := (qs.find? fun q => decide (q.1 = x)).map (·.2)
def putI (qs : List (Int × Int)) (x y : Int) : List (Int × Int) := if (qs.any fun q => decide (q.1 = x)) = true then qs.map (fun q => if q.1 = x then (q.1, y) else q) else qs ++ [(x, y)]
theorem getI_val (x : Int) : ∀ qs : List (Int × Int), valV (qs.map itK) (Sum.inl x) = (getI qs x).map V.int
  | [] => rfl
  | q :: qs => by
    have ih := getI_val x qs
    rw [List.map_cons]
    by_cases e : q.1 = x
    · rw [valV_pos (by show (Sum.inl q.1 : Key) = Sum.inl x; rw [e])]
      simp [getI, e, itK]
    · rw [valV_neg (by show ¬ (Sum.inl q.1 : Key) = Sum.inl x; exact fun z => e (Sum.inl.inj z)), ih]
      simp [getI, e]
theorem any_itK (x : Int) (qs : List (Int × Int)) : ((qs.map itK).any fun kv => decide (kv.1 = Sum.inl x)) = qs.any fun q => decide (q.1 = x) := by
  rw [List.any_map]
  congr 1
  funext q
  exact decide_eq_decide.mpr ⟨fun e => Sum.inl.inj e, fun e => congrArg Sum.inl e⟩
theorem putI_put (qs : List (Int × Int)) (x y : Int) : putK (qs.map itK) (Sum.inl x) (.int y) = (putI qs x y).map itK := by
  unfold putK putI
  rw [any_itK]
  by_cases c : (qs.any fun q => decide (q.1 = x)) = true
  · rw [if_pos c, if_pos c, List.map_map, List.map_map]
    refine List.map_congr_left fun q _ => ?_
    show (if (Sum.inl q.1 : Key) = Sum.inl x then ((Sum.inl q.1 : Key), V.int y) else (Sum.inl q.1, V.int q.2)) = itK (if q.1 = x then (q.1, y) else q)
    by_cases e : q.1 = x
    · rw [if_pos (by rw [e]), if_pos e]; rfl
    · rw [if_neg (fun z => e (Sum.inl.inj z)), if_neg e]; rfl
  · rw [if_neg c, if_neg c, List.map_append]
    rfl
theorem getI_any (x : Int) : ∀ qs : List (Int × Int), (qs.any fun q => decide (q.1 = x)) = (getI qs x).isSome
  | [] => rfl
  | q :: qs => by
    rw [List.any_cons, getI_any x qs]
    by_cases e : q.1 = x
    · simp [getI, e]
    · simp [getI, e]
theorem getI_map (x y z : Int) : ∀ qs : List (Int × Int), getI (qs.map fun q => if q.1 = x then (q.1, y) else q) z = if z = x then (getI qs z).map fun _ => y else getI qs z
  | [] => by simp [getI]
  | q :: qs => by
    have ih := getI_map x y z qs
    by_cases e : q.1 = z
    · by_cases c : z = x
      · subst c; simp [getI, e]
      · rw [if_neg c]
        have : ¬ q.1 = x := fun w => c (by rw [← e, w])
        simp [getI, e, this, c]
    · have hk : (if q.1 = x then (q.1, y) else q).1 = q.1 := by split <;> rfl
      have g1 : getI ((q :: qs).map fun q => if q.1 = x then (q.1, y) else q) z = getI (qs.map fun q => if q.1 = x then (q.1, y) else q) z := by
        unfold getI
        rw [List.map_cons, List.find?_cons, hk, decide_eq_false e]
      have g2 : getI (q :: qs) z = getI qs z := by
        unfold getI
        rw [List.find?_cons, decide_eq_false e]
      rw [g1, g2, ih]
theorem getI_append (x y z : Int) (qs : List (Int × Int)) (h : getI qs x = none) : getI (qs ++ [(x, y)]) z = if z = x then some y else getI qs z := by
  unfold getI at h ⊢
  rw [List.find?_append]
  cases c : qs.find? fun q => decide (q.1 = z) with
  | some q =>
    by_cases e : z = x
    · subst e; rw [c] at h; cases h
    · rw [if_neg e]; rfl
  | none =>
    by_cases e : z = x
    · subst e; simp
    · have : ¬ x = z := fun w => e w.symm
      simp [this, e]
theorem getI_put (qs : List (Int × Int)) (x y z : Int) : getI (putI qs x y) z = if z = x then some y else getI qs z := by
  unfold putI
  by_cases c : (qs.any fun q => decide (q.1 = x)) = true
  · rw [if_pos c, getI_map]
    rw [getI_any] at c
    by_cases e : z = x
    · subst e
      rw [if_pos rfl, if_pos rfl]
      cases h : getI qs z with
      | none => rw [h] at c; cases c
      | some v => rfl
    · rw [if_neg e, if_neg e]
  · rw [if_neg c]
    rw [getI_any] at c
    exact getI_append x y z qs (by cases h : getI qs x with | none => rfl | some v => rw [h] at c; exact absurd rfl c)
theorem putI_nodup {qs : List (Int × Int)} {x y : Int} (h : (qs.map (·.1)).Nodup) : ((putI qs x y).map (·.1)).Nodup := by
  unfold putI
  split
  · rw [List.map_map]
    have e : ((fun p : Int × Int => p.1) ∘ fun q : Int × Int => if q.1 = x then (q.1, y) else q) = fun p => p.1 := funext fun p => by
      show (if p.1 = x then (p.1, y) else p).1 = p.1
      split <;> rfl
    rw [e]
    exact h
  · next c =>
    rw [List.map_append, List.nodup_append]
    refine ⟨h, by simp, fun a ha b hb e => ?_⟩
    obtain ⟨p, hp, rfl⟩ := List.mem_map.mp ha
    have hb' : b = x := by simpa using hb
    refine c (List.any_eq_true.mpr ⟨p, hp, decide_eq_true ?_⟩)
    rw [e, hb']
theorem putI_len (qs : List (Int × Int)) (x y : Int) : (putI qs x y).length ≤ qs.length + 1 := by
  unfold putI
  split
  · rw [List.length_map]; omega
  · rw [List.length_append, List.length_singleton]; omega
theorem getI_mem {qs : List (Int × Int)} (nd : (qs.map (·.1)).Nodup) {x y : Int} : (x, y) ∈ qs ↔ getI qs x = some y := by
  induction qs with
  | nil => exact ⟨fun h => (List.not_mem_nil h).elim, fun h => by cases h⟩
  | cons q qs ih =>
    rw [List.map_cons, List.nodup_cons] at nd
    by_cases e : q.1 = x
    · have g : getI (q :: qs) x = some q.2 := by simp [getI, e]
      rw [g]
      constructor
      · intro h
        rcases List.mem_cons.mp h with h | h
        · rw [← h]
        · exact absurd (List.mem_map.mpr ⟨(x, y), h, e.symm⟩) nd.1
      · intro h
        have : q = (x, y) := by
          have := Option.some.inj h
          rw [← e, ← this]
        rw [this]
        exact List.mem_cons_self
    · have g : getI (q :: qs) x = getI qs x := by simp [getI, e]
      rw [g, ← ih nd.2, List.mem_cons]
      exact ⟨fun h => h.resolve_left fun z => e (by rw [← z]), .inr⟩
theorem srt_of {rs qs : List (Int × Int)} (p : rs.Perm qs) (s : rs.Pairwise leP) (nd : (qs.map (·.1)).Nodup) : rs.Pairwise ltF := by
  have nr : (rs.map (·.1)).Nodup := (p.map (·.1)).nodup_iff.mpr nd
  rw [List.nodup_iff_pairwise_ne, List.pairwise_map] at nr
  refine (s.and nr).imp fun {a b} h => ?_
  have h1 : a.1 < b.1 ∨ (a.1 = b.1 ∧ a.2 ≤ b.2) := h.1
  have h2 : a.1 ≠ b.1 := h.2
  show a.1 < b.1
  omega
/-- what a dict of all exits gives when it is sorted -/
theorem srt_exs {row : List Int} (hp : Pg 40 row) {rs qs : List (Int × Int)} (p : rs.Perm qs) (s : rs.Pairwise leP) (nd : (qs.map (·.1)).Nodup) (g : ∀ x, getI qs x = nx row x) : rs = exs row :=
  srt_uniq (srt_of p s nd) (exs_srt row) fun q => by
    obtain ⟨x, y⟩ := q
    rw [mem_exs hp, ← g x, ← getI_mem nd, p.mem_iff]
/-! ### the dict as it is filled from the front -/
def foldP (qs : List (Int × Int)) : List Int → List (Int × Int)
  | [] => qs
  | a :: r => foldP (putI qs a (r.headD a)) r
theorem foldP_get (x : Int) : ∀ (row : List Int) (qs : List (Int × Int)), getI (foldP qs row) x = match nx row x with | some y => some y | none => getI qs x
  | [], qs => rfl
  | a :: r, qs => by
    show getI (foldP (putI qs a (r.headD a)) r) x = _
    rw [foldP_get x r]
    cases e : nx r x with
    | some y => rw [nx_some e]
    | none =>
      rw [nx_none e]
      show getI (putI qs a (r.headD a)) x = _
      rw [getI_put]
      by_cases c : x = a
      · rw [if_pos c, if_pos c.symm]
      · rw [if_neg c, if_neg (fun z => c z.symm)]
theorem foldP_nodup : ∀ (row : List Int) (qs : List (Int × Int)), (qs.map (·.1)).Nodup → ((foldP qs row).map (·.1)).Nodup
  | [], _, h => h
  | a :: r, qs, h => foldP_nodup r _ (putI_nodup h)
theorem foldP_all (row : List Int) (x : Int) : getI (foldP [] row) x = nx row x := by
  rw [foldP_get]
  cases nx row x <;> rfl
/-! ### first page, root, leaves -/
def rootsOf (qs : List (Int × Int)) : List Int := (qs.filter fun q => decide (q.1 = q.2)).map (·.1)
def usedOf (qs : List (Int × Int)) : List Int := (qs.filter fun q => !decide (q.1 = q.2)).map (·.2)
def leavesOf (qs : List (Int × Int)) : List Int := (qs.filter fun q => !decide (q.1 ∈ usedOf qs)).map (·.1)
theorem filter_one {α : Type} {P : α → Bool} {a : α} : ∀ {l : List α}, l.Nodup → a ∈ l → (∀ b ∈ l, P b = true ↔ b = a) → l.filter P = [a]
  | [], _, h, _ => (List.not_mem_nil h).elim
  | b :: l, nd, h, hP => by
    rw [List.nodup_cons] at nd
    rcases List.mem_cons.mp h with e | h
    · subst e
      rw [List.filter_cons_of_pos ((hP a List.mem_cons_self).mpr rfl)]
      congr 1
      rw [List.filter_eq_nil_iff]
      intro c hc pc
      have := (hP c (List.mem_cons_of_mem _ hc)).mp pc
      exact nd.1 (this ▸ hc)
    · have nb : ¬ P b = true := fun pb => by
        have := (hP b List.mem_cons_self).mp pb
        exact nd.1 (this ▸ h)
      rw [List.filter_cons_of_neg nb]
      exact filter_one nd.2 h fun c hc => hP c (List.mem_cons_of_mem _ hc)
theorem srt_nd {l : List (Int × Int)} (h : l.Pairwise ltF) : l.Nodup := by
  rw [List.nodup_iff_pairwise_ne]
  exact h.imp fun {a b} h e => by
    have : a.1 < b.1 := h
    rw [e] at this
    omega
theorem roots_exs {row : List Int} (hp : Pg 40 row) (h : row ≠ []) : rootsOf (exs row) = [lst row] := by
  unfold rootsOf
  rw [filter_one (a := (lst row, lst row)) (srt_nd (exs_srt row)) ((mem_exs hp).mpr (nx_lst h)) fun b hb => ?_]
  · rfl
  · obtain ⟨x, y⟩ := b
    have hx := (mem_exs hp).mp hb
    rw [decide_eq_true_iff]
    constructor
    · intro e
      have e' : x = y := e
      rcases nx_ix hx with ⟨_, h2⟩ | ⟨h1, _⟩
      · rw [← e', h2]
      · exact absurd e' h1
    · intro e
      cases e
      rfl
theorem exs_len {row : List Int} (hp : Pg 40 row) : (exs row).length = (dd row).length := by
  have h1 : ((exs row).map (·.1)).Nodup := srt_nodup (exs_srt row)
  have h2 : ((exs row).map (·.1)).Perm (dd row) := by
    rw [List.perm_ext_iff_of_nodup h1 (dd_nodup row)]
    intro x
    rw [dd_mem]
    constructor
    · intro h
      obtain ⟨⟨a, b⟩, hq, rfl⟩ := List.mem_map.mp h
      exact (mem_nx ((mem_exs hp).mp hq)).1
    · intro h
      obtain ⟨y, hy⟩ := nx_mem h
      exact List.mem_map.mpr ⟨(x, y), (mem_exs hp).mpr hy, rfl⟩
  have := h2.length_eq
  rw [List.length_map] at this
  exact this
theorem exs_len40 (row : List Int) : (exs row).length ≤ 40 := by
  unfold exs
  refine Nat.le_trans (List.length_filterMap_le _ _) ?_
  rw [List.length_map, List.length_range]
  exact Nat.le_refl _
end EF

set_option Elab.async false
set_option linter.all false
set_option maxRecDepth 100000
set_option maxHeartbeats 4000000
/-! repr of anything that is shown: numbers, texts, None, lists, tuples, empty dicts, at any depth -/
namespace BC
open PySem PySem.Spec PyProof.Rows L2 Evl
mutual
inductive De (K : PySem.W.Frag) (H : Hp) : V → PyData → Prop
  | non : De K H .non .none
  | bl (b : Bool) : De K H (.bl b) (.bool b)
  | int (i : Int) : De K H (.int i) (.int i)
  | str (x : Str) : De K H (.str x) (.str x)
  | lst {a : Addr} {xs : List V} {ds : List PyData} : SqL K H a xs → DeAll K H xs ds → De K H (.ref a) (.list ds)
  | tup {a : Addr} {xs : List V} {ds : List PyData} : SqT K H a xs → DeAll K H xs ds → De K H (.ref a) (.tuple ds)
  | dic {a : Addr} : H a = some (.dK []) → De K H (.ref a) (.dict [])
inductive DeAll (K : PySem.W.Frag) (H : Hp) : List V → List PyData → Prop
  | nil : DeAll K H [] []
  | cons {v : V} {vs : List V} {d : PyData} {ds : List PyData} : De K H v d → DeAll K H vs ds → DeAll K H (v :: vs) (d :: ds)
end
section
variable {X : Cx} {pins : List (Addr × Obj)} {σ : L2.St} {H : Hp} {s : Shared}
/-- what is known of a value that is shown -/
def Shows (X : Cx) (s : Shared) (u : Value) (d : PyData) : Prop :=
  (∃ as, Reads s.heap u d as) ∧ ∃ bs, ReadAtMost s.heap d.depth bs ∧ ReprK X.prog X.w bs s.heap d.depth u d.shown
def ShowsAll (X : Cx) (s : Shared) (us : List Value) (ds : List PyData) : Prop :=
  (∃ as, ReadsAll s.heap us ds as) ∧ ∃ bs, ReadAtMost s.heap (PyData.depthAll ds) bs ∧ ReprAllK X.prog X.w bs s.heap (PyData.depthAll ds) us (PyData.shownAll ds)
theorem empty_dict (I : Inv X pins σ H s) {a : Addr} (e : H a = some (.dK [])) : (a == sysModules) = false ∧ ∃ o n, s.heap.get? a = some o ∧ o.cls = .type "dict" ∧ o.data = .dict #[] n := by
  obtain ⟨_, hs, vs, kv, o, es, ep, ho, hx, hd, _, hm, _⟩ := dk_of I.hok e
  cases kv
  have he : es = #[] := by
    obtain ⟨l⟩ := es
    cases l with
    | nil => rfl
    | cons y l => cases hm
  subst he
  exact ⟨hs, o, ep, ho, hx.1, hd⟩
mutual
theorem De.shows (I : Inv X pins σ H s) : ∀ (d : PyData) (v : V) (u : Value), De X.K H v d → RelV v u → d.showable = true → d.shown.length ≤ sizeLine → Shows X s u d
  | .none, _, _, h, r, _, _ => by
    cases h; cases r
    exact ⟨⟨_, .none⟩, [], (fun _ m => nomatch m), by rw [show PyData.shown .none = ("None" : Str) by simp only [PyData.shown]]; exact .of_is ReprIs.none _ _ _⟩
  | .bool b, _, _, h, r, _, _ => by
    cases h; cases r
    exact ⟨⟨_, .bool b⟩, [], (fun _ m => nomatch m), by simp only [PyData.shown]; exact .of_is (ReprIs.bool b) _ _ _⟩
  | .int i, _, _, h, r, hs, _ => by
    cases h
    obtain ⟨t, rfl⟩ := r
    have h1 : i.natAbs.log2 < 1920 := by simpa [PyData.showable] using hs
    exact ⟨⟨_, .int i t⟩, [], (fun _ m => nomatch m), by simp only [PyData.shown]; exact .of_is (ReprIs.int t h1) _ _ _⟩
  | .str x, _, _, h, r, _, hz => by
    cases h
    obtain ⟨t, rfl⟩ := r
    simp only [PyData.shown] at hz
    exact ⟨⟨_, .str x t⟩, [], (fun _ m => nomatch m), by simp only [PyData.shown]; exact .of_is (ReprIs.str x t hz) _ _ _⟩
  | .list ds, _, _, h, r, hs, hz => by
    cases h with
    | lst hl ha =>
      cases r
      obtain ⟨its, rv, ⟨o, n, ho, hc, _, hd⟩, _⟩ := I.list hl
      simp only [PyData.shown] at hz
      simp only [PyData.showable] at hs
      obtain ⟨⟨as, hr⟩, bs, hb, hk⟩ := DeAll.shows I ds _ its ha rv hs fun t ht => Nat.le_trans (listText_mem_le ht) hz
      have r1 : Reads s.heap _ (.list ds) _ := .list ho hc hd hr
      have na := not_mem_of_deeper r1 (show PyData.depthAll ds < PyData.depth (.list ds) by simp only [PyData.depth]; omega) hb
      refine ⟨⟨_, r1⟩, _ :: bs, ReadAtMost.cons r1 (by simp only [PyData.depth]; omega) hb, ?_⟩
      simp only [PyData.depth, PyData.shown]
      cases its with
      | nil =>
        cases hr
        simp only [PyData.shownAll, listText_nil]
        exact ReprK.listEmpty ho hc hd
      | cons y l => exact ReprK.list ho hc hd na (by simpa using hk.length_eq) (fun i y e => hk.item i y (by simpa using e))
  | .tuple ds, _, _, h, r, hs, hz => by
    cases h with
    | tup hl ha =>
      cases r
      obtain ⟨its, rv, ⟨o, ho, hc, n, hd⟩, _⟩ := I.tuple hl
      simp only [PyData.shown] at hz
      simp only [PyData.showable] at hs
      obtain ⟨⟨as, hr⟩, bs, hb, hk⟩ := DeAll.shows I ds _ its ha rv hs fun t ht => Nat.le_trans (tupleText_mem_le ht) hz
      have r1 : Reads s.heap _ (.tuple ds) _ := .tuple ho hc hd hr
      have na := not_mem_of_deeper r1 (show PyData.depthAll ds < PyData.depth (.tuple ds) by simp only [PyData.depth]; omega) hb
      refine ⟨⟨_, r1⟩, _ :: bs, ReadAtMost.cons r1 (by simp only [PyData.depth]; omega) hb, ?_⟩
      simp only [PyData.depth, PyData.shown]
      exact ReprK.tuple ho hc hd na hk
  | .dict kvs, _, _, h, r, hs, hz => by
    cases h with
    | dic e =>
      cases r
      obtain ⟨hsys, o, n, ho, hc, hd⟩ := empty_dict I e
      have r1 : Reads s.heap _ (.dict []) _ := .dict (kvs := []) ho hc hd .nil .nil
      refine ⟨⟨_, r1⟩, [_], ReadAtMost.cons r1 (Nat.zero_le _) (fun _ m => nomatch m), ?_⟩
      simp only [PyData.depth, PyData.shown, PyData.shownKv, PyData.depthKv]
      exact ReprK.dict ho hc hd hsys List.not_mem_nil .nil
theorem DeAll.shows (I : Inv X pins σ H s) : ∀ (ds : List PyData) (vs : List V) (us : List Value), DeAll X.K H vs ds → Vals vs us → PyData.showableAll ds = true → (∀ t ∈ PyData.shownAll ds, t.length ≤ sizeLine) → ShowsAll X s us ds
  | [], _, _, h, r, _, _ => by
    cases h; cases r
    exact ⟨⟨_, .nil⟩, [], (fun _ m => nomatch m), by simp only [PyData.shownAll]; exact .nil⟩
  | d :: ds, _, _, h, r, hs, hz => by
    cases h with
    | cons h1 h2 =>
      cases r with
      | cons r1 r2 =>
        have hs2 : d.showable = true ∧ PyData.showableAll ds = true := by simpa [PyData.showableAll] using hs
        obtain ⟨⟨as, q1⟩, b1, c1, k1⟩ := De.shows I d _ _ h1 r1 hs2.1 (hz _ (by simp only [PyData.shownAll]; exact List.mem_cons_self))
        obtain ⟨⟨as2, q2⟩, b2, c2, k2⟩ := DeAll.shows I ds _ _ h2 r2 hs2.2 (fun t ht => hz t (by simp only [PyData.shownAll]; exact List.mem_cons_of_mem _ ht))
        refine ⟨⟨_, .cons q1 q2⟩, b1 ++ b2, ReadAtMost.append (c1.mono ?_) (c2.mono ?_), ?_⟩
        · simp only [PyData.depthAll]; omega
        · simp only [PyData.depthAll]; omega
        · simp only [PyData.depthAll, PyData.shownAll]
          exact .cons ((k1.more fun b m => List.mem_append_left _ m).level_le (by omega)) (k2.more_le (fun b m => List.mem_append_right _ m) (by omega))
end
def rReprA (K : PySem.W.Frag) : List V → Hp → VK → Prop := fun xs H Q => ∃ v d, xs = [v] ∧ De K H v d ∧ d.showable = true ∧ d.depth ≤ 60 ∧ d.shown.length ≤ sizeLine ∧ Q (.str d.shown) H
theorem k_reprA {K : PySem.W.Frag} (hK : X.K = K) (g : G0 X.A) (hu : X.A.units + 64 < cLine) : CallR X (.builtin "repr") (rReprA K) := by
  subst hK
  intro pins s σ H xs us Q I r h
  obtain ⟨v, d, rfl, hd, h1, h2, h4, q⟩ := h
  obtain ⟨u, rfl, ru⟩ := vals1 r
  have fin : ∀ (h' : Heap) (t tk : Nat), (∀ b o, s.heap.get? b = some o → h'.get? b = some o) → EP X pins σ Q (.str d.shown t) { s with heap := h', toks := tk } := fun h' t tk hk => ⟨.str _, H, I.kept hk, ⟨_, rfl⟩, q⟩
  cases hd with
  | non =>
    cases ru
    simp only [PyData.shown] at fin
    exact P.repr_of_none (fin s.heap _ _ fun _ _ e => e)
  | bl b =>
    cases ru
    simp only [PyData.shown] at fin
    exact P.repr_of_bool (fin s.heap _ _ fun _ _ e => e)
  | int i =>
    obtain ⟨t, rfl⟩ := ru
    simp only [PyData.shown] at fin
    exact P.repr_of_int (by simpa [PyData.showable] using h1) (fin s.heap _ _ fun _ _ e => e)
  | str x =>
    obtain ⟨t, rfl⟩ := ru
    simp only [PyData.shown] at fin h4
    exact P.repr_of_str (fin s.heap _ _ fun _ _ e => e) h4
  | @lst a ys ds hl ha =>
    cases ru
    obtain ⟨its, rv, ⟨o, n, ho, hc, _, hd⟩, _⟩ := I.list hl
    simp only [PyData.shown] at h4 fin
    simp only [PyData.showable] at h1
    simp only [PyData.depth] at h2
    obtain ⟨⟨as, hr⟩, bs, hb, hk⟩ := DeAll.shows I ds _ its ha rv h1 fun t ht => Nat.le_trans (listText_mem_le ht) h4
    have r1 : Reads s.heap _ (.list ds) _ := .list ho hc hd hr
    have na := not_mem_of_deeper r1 (show PyData.depthAll ds < PyData.depth (.list ds) by simp only [PyData.depth]; omega) hb
    refine call_repr_slot (by omega) ⟨o, ho, hc⟩ PySem.F.slot_list_repr.toG ?_
    cases its with
    | nil =>
      cases hr
      simp only [PyData.shownAll, listText_nil] at fin
      exact call_list_repr_empty ⟨o, ho, hc⟩ ho hd ⟨_, _, rfl, fin s.heap _ _ fun _ _ e => e⟩
    | cons y l => exact call_list_reprK ho hc hd na (by simpa using hk.length_eq) (fun i y e => hk.item i y (by simpa using e)) g (fun b _ => Clear.nil b) (by show X.A.units + 1 + _ < cLine; omega) (fun _ _ e => e) (fun h' u tk k => ⟨_, _, rfl, fin h' u tk k⟩) h4
  | @tup a ys ds hl ha =>
    cases ru
    obtain ⟨its, rv, ⟨o, ho, hc, n, hd⟩, _⟩ := I.tuple hl
    simp only [PyData.shown] at h4 fin
    simp only [PyData.showable] at h1
    simp only [PyData.depth] at h2
    obtain ⟨⟨as, hr⟩, bs, hb, hk⟩ := DeAll.shows I ds _ its ha rv h1 fun t ht => Nat.le_trans (tupleText_mem_le ht) h4
    have r1 : Reads s.heap _ (.tuple ds) _ := .tuple ho hc hd hr
    have na := not_mem_of_deeper r1 (show PyData.depthAll ds < PyData.depth (.tuple ds) by simp only [PyData.depth]; omega) hb
    refine call_repr_slot (by omega) ⟨o, ho, hc⟩ PySem.F.slot_tuple_repr ?_
    exact call_tuple_reprK ho hc hd na hk g (fun b _ => Clear.nil b) (by show X.A.units + 1 + _ < cLine; omega) (fun _ _ e => e) (fun h' u tk k => ⟨_, _, rfl, fin h' u tk k⟩) h4
  | dic e =>
    cases ru
    obtain ⟨hsys, o, n, ho, hc, hd⟩ := empty_dict I e
    simp only [PyData.shown, PyData.shownKv] at h4 fin
    refine call_repr_slot (by omega) ⟨o, ho, hc⟩ PySem.F.slot_dict_repr ?_
    exact call_dict_reprK (as := []) (d := 0) ho hc hd hsys List.not_mem_nil .nil g (fun b _ => Clear.nil b) (by show X.A.units + 1 + _ < cLine; omega) (fun _ _ e => e) (fun h' u tk k => ⟨_, _, rfl, fin h' u tk k⟩) h4
end
/-! ### what is shown stays so, its type, its size -/
section
variable {K : PySem.W.Frag} {H H' : Hp} {Q : VK}
mutual
theorem De.ex (e : Ex H H') : ∀ (d : PyData) (v : V), De K H v d → De K H' v d
  | .none, _, h => by cases h; exact .non
  | .bool _, _, h => by cases h; exact .bl _
  | .int _, _, h => by cases h; exact .int _
  | .str _, _, h => by cases h; exact .str _
  | .dict _, _, h => by
    cases h with
    | dic h1 => exact .dic (e _ _ h1)
  | .list ds, _, h => by
    cases h with
    | lst h1 h2 => exact .lst (ex_l e h1) (DeAll.ex e ds _ h2)
  | .tuple ds, _, h => by
    cases h with
    | tup h1 h2 => exact .tup (ex_t e h1) (DeAll.ex e ds _ h2)
theorem DeAll.ex (e : Ex H H') : ∀ (ds : List PyData) (vs : List V), DeAll K H vs ds → DeAll K H' vs ds
  | [], _, h => by cases h; exact .nil
  | d :: ds, _, h => by
    cases h with
    | cons h1 h2 => exact .cons (De.ex e d _ h1) (DeAll.ex e ds _ h2)
end
theorem De.ty {v : V} {d : PyData} (h : De K H v d) : TyX K H v (.type (tyn d)) := by
  cases h with
  | non => exact .base .non
  | bl b => exact .base (.bl b)
  | int i => exact .base (.int i)
  | str x => exact .base (.str x)
  | lst h _ => exact tyx_l h
  | tup h _ => exact tyx_t h
  | dic h => exact .base (.dK h)
theorem de_ints (ns : List Int) : DeAll K H (ns.map V.int) (ns.map PyData.int) := by
  induction ns with
  | nil => exact .nil
  | cons n ns ih => exact .cons (.int n) ih
theorem DeAll.len {vs : List V} {ds : List PyData} (h : DeAll K H vs ds) : vs.length = ds.length := by
  induction ds generalizing vs with
  | nil => cases h; rfl
  | cons d ds ih =>
    cases h with
    | cons _ h2 => simp [ih h2]
theorem DeAll.at {vs : List V} {ds : List PyData} (h : DeAll K H vs ds) {i : Nat} {v : V} (hv : vs[i]? = some v) : ∃ d, ds[i]? = some d ∧ De K H v d := by
  induction ds generalizing vs i with
  | nil => cases h; simp at hv
  | cons d ds ih =>
    cases h with
    | cons h1 h2 =>
      cases i with
      | zero => cases hv; exact ⟨d, rfl, h1⟩
      | succ i => exact ih h2 (by simpa using hv)
theorem DeAll.app {vs ws : List V} {ds es : List PyData} (h : DeAll K H vs ds) (g : DeAll K H ws es) : DeAll K H (vs ++ ws) (ds ++ es) := by
  induction ds generalizing vs with
  | nil => cases h; exact g
  | cons d ds ih =>
    cases h with
    | cons h1 h2 => exact .cons h1 (ih h2)
/-- shown in few signs -/
structure Gd (n W : Nat) (d : PyData) : Prop where
  s : d.showable = true
  l : d.leavesShort 40 = true
  dp : d.depth ≤ n
  w : d.weight ≤ W
theorem Gd.mono {n W n2 W2 : Nat} {d : PyData} (h : Gd n W d) (a : n ≤ n2) (b : W ≤ W2) : Gd n2 W2 d := ⟨h.s, h.l, Nat.le_trans h.dp a, Nat.le_trans h.w b⟩
theorem Gd.non : Gd 0 0 .none := ⟨rfl, rfl, Nat.le_refl _, Nat.le_refl _⟩
theorem Gd.bl (b : Bool) : Gd 0 0 (.bool b) := ⟨rfl, rfl, Nat.le_refl _, Nat.le_refl _⟩
theorem Gd.dic : Gd 1 0 (.dict []) := ⟨by simp [PyData.showable, PyData.showableKv], by simp [PyData.leavesShort, PyData.leavesShortKv], by simp [PyData.depth, PyData.depthKv], by simp [PyData.weight, PyData.weightKv]⟩
theorem Gd.int {i : Int} (h : i.natAbs < 10 ^ 38) : Gd 0 130 (.int i) := by
  have h2 : i.natAbs < 2 ^ 130 := Nat.lt_trans h (by decide +kernel)
  have hl : i.natAbs.log2 < 130 := log2_small (by decide) h2
  refine ⟨?_, ?_, Nat.le_refl _, ?_⟩
  · show decide (i.natAbs.log2 < 1920) = true
    exact decide_eq_true (by omega)
  · show decide ((PyData.shown (.int i)).length ≤ 40) = true
    refine decide_eq_true ?_
    have e := int_text_length_le10 (k := 38) (by decide) h
    simp only [PyData.shown]
    rw [show ((toString i : String) : Str).length = (toString i).length from PySem.ofString_length _]
    omega
  · simp only [PyData.weight]
    split
    · omega
    · omega
theorem Gd.str {x : Str} (h : (PyData.str x).leavesShort 40 = true) : Gd 0 x.cps.size (.str x) := ⟨rfl, h, Nat.le_refl _, by simp only [PyData.weight]; exact Nat.le_refl _⟩
theorem gd_all {ds : List PyData} {n W : Nat} (h : ∀ d ∈ ds, Gd n W d) : PyData.showableAll ds = true ∧ PyData.leavesShortAll 40 ds = true ∧ PyData.depthAll ds ≤ n ∧ PyData.weightAll ds ≤ (W + 1) * ds.length := by
  induction ds with
  | nil => exact ⟨rfl, rfl, Nat.zero_le _, Nat.zero_le _⟩
  | cons d ds ih =>
    have a := h d List.mem_cons_self
    obtain ⟨b1, b2, b3, b4⟩ := ih fun e m => h e (List.mem_cons_of_mem _ m)
    have := a.dp
    have := a.w
    simp only [PyData.showableAll, PyData.leavesShortAll, PyData.depthAll, PyData.weightAll, List.length_cons, Nat.mul_add, a.s, a.l, b1, b2, Bool.and_self]
    exact ⟨trivial, trivial, by omega, by omega⟩
theorem Gd.list {ds : List PyData} {n W : Nat} (h : ∀ d ∈ ds, Gd n W d) : Gd (n + 1) ((W + 1) * ds.length) (.list ds) := by
  obtain ⟨b1, b2, b3, b4⟩ := gd_all h
  exact ⟨by simp only [PyData.showable]; exact b1, by simp only [PyData.leavesShort]; exact b2, by simp only [PyData.depth]; omega, by simp only [PyData.weight]; exact b4⟩
theorem Gd.tuple {ds : List PyData} {n W : Nat} (h : ∀ d ∈ ds, Gd n W d) : Gd (n + 1) ((W + 1) * ds.length) (.tuple ds) := by
  obtain ⟨b1, b2, b3, b4⟩ := gd_all h
  exact ⟨by simp only [PyData.showable]; exact b1, by simp only [PyData.leavesShort]; exact b2, by simp only [PyData.depth]; omega, by simp only [PyData.weight]; exact b4⟩
theorem Gd.fits {n W : Nat} {d : PyData} (h : Gd n W d) (hW : W ≤ 370000) : d.shown.length ≤ sizeLine := by
  have a := PyData.shown_le 40 (by decide) d h.l
  have b := h.w
  rw [sizeLine_eq]
  omega
theorem reprA {v : V} {d : PyData} {n W : Nat} (h : De K H v d) (g : Gd n W d) (hn : n ≤ 60) (hW : W ≤ 370000) (q : Q (.str d.shown) H) : rReprA K [v] H Q :=
  ⟨v, d, rfl, h, g.s, Nat.le_trans g.dp hn, g.fits hW, q⟩
end
/-! ### values that are shown in few signs; one address hidden -/
def hidB (b : Addr) (H : Hp) : Hp := fun a => if a = b then none else H a
theorem hid_ex {b : Addr} {H : Hp} : Ex (hidB b H) H := fun a o h => by
  unfold hidB at h
  split at h
  · cases h
  · exact h
theorem hid_ne {b a : Addr} {H : Hp} (n : a ≠ b) : hidB b H a = H a := by
  unfold hidB
  rw [if_neg n]
theorem hid_fx {b : Addr} {H H' : Hp} (f : Fx b H H') : Ex (hidB b H) (hidB b H') := fun a o h => by
  unfold hidB at h ⊢
  by_cases e : a = b
  · rw [if_pos e] at h; cases h
  · rw [if_neg e] at h ⊢
    exact f a o e h
theorem hid_of {b : Addr} {H H' : Hp} (e : Ex H H') : Ex (hidB b H) (hidB b H') := hid_fx (fun a o _ h => e a o h)
def Sv (K : PySem.W.Frag) (H : Hp) (n W : Nat) (v : V) : Prop := ∃ d, De K H v d ∧ Gd n W d
section
variable {K : PySem.W.Frag} {H H' : Hp} {Q : VK} {n W : Nat} {v : V}
theorem Sv.ex (h : Sv K H n W v) (e : Ex H H') : Sv K H' n W v := by
  obtain ⟨d, a, g⟩ := h
  exact ⟨d, De.ex e d v a, g⟩
theorem Sv.mono {n2 W2 : Nat} (h : Sv K H n W v) (a : n ≤ n2) (b : W ≤ W2) : Sv K H n2 W2 v := by
  obtain ⟨d, x, g⟩ := h
  exact ⟨d, x, g.mono a b⟩
theorem Sv.non : Sv K H n W .non := ⟨_, .non, Gd.non.mono (Nat.zero_le _) (Nat.zero_le _)⟩
theorem Sv.bl (b : Bool) : Sv K H n W (.bl b) := ⟨_, .bl b, (Gd.bl b).mono (Nat.zero_le _) (Nat.zero_le _)⟩
theorem Sv.int {i : Int} (h : i.natAbs < 10 ^ 38) (hW : 130 ≤ W) : Sv K H n W (.int i) := ⟨_, .int i, (Gd.int h).mono (Nat.zero_le _) hW⟩
theorem Sv.str {x : Str} (h : (PyData.str x).leavesShort 40 = true) (hW : x.cps.size ≤ W) : Sv K H n W (.str x) := ⟨_, .str x, (Gd.str h).mono (Nat.zero_le _) hW⟩
theorem Sv.dic {a : Addr} (h : H a = some (.dK [])) (hn : 1 ≤ n) : Sv K H n W (.ref a) := ⟨_, .dic h, Gd.dic.mono hn (Nat.zero_le _)⟩
theorem sv_all {xs : List V} (h : ∀ x ∈ xs, Sv K H n W x) : ∃ ds, DeAll K H xs ds ∧ (∀ d ∈ ds, Gd n W d) ∧ ds.length = xs.length := by
  induction xs with
  | nil => exact ⟨[], .nil, (fun _ m => nomatch m), rfl⟩
  | cons x xs ih =>
    obtain ⟨d, a, g⟩ := h x List.mem_cons_self
    obtain ⟨ds, b, c, l⟩ := ih fun y m => h y (List.mem_cons_of_mem _ m)
    refine ⟨d :: ds, .cons a b, fun e m => ?_, by simp [l]⟩
    rcases List.mem_cons.mp m with rfl | m
    · exact g
    · exact c e m
theorem Sv.lst {a : Addr} {xs : List V} {W2 n2 : Nat} (h : SqL K H a xs) (hx : ∀ x ∈ xs, Sv K H n W x) (hn : n + 1 ≤ n2) (hW : (W + 1) * xs.length ≤ W2) : Sv K H n2 W2 (.ref a) := by
  obtain ⟨ds, b, c, l⟩ := sv_all hx
  exact ⟨.list ds, .lst h b, (Gd.list c).mono hn (by rw [l]; exact hW)⟩
theorem Sv.tup {a : Addr} {xs : List V} {W2 n2 : Nat} (h : SqT K H a xs) (hx : ∀ x ∈ xs, Sv K H n W x) (hn : n + 1 ≤ n2) (hW : (W + 1) * xs.length ≤ W2) : Sv K H n2 W2 (.ref a) := by
  obtain ⟨ds, b, c, l⟩ := sv_all hx
  exact ⟨.tuple ds, .tup h b, (Gd.tuple c).mono hn (by rw [l]; exact hW)⟩
theorem sv_ints {ns : List Int} (h : ∀ i ∈ ns, i.natAbs < 10 ^ 38) (hW : 130 ≤ W) : ∀ x ∈ ns.map V.int, Sv K H n W x := fun x m => by
  obtain ⟨i, hi, rfl⟩ := List.mem_map.mp m
  exact .int (h i hi) hW
end
/-- a part of a list of numbers is one -/
theorem cut_ints (ns : List Int) (lo hi : Option Int) : ∃ ms : List Int, cutV (ns.map V.int) lo hi = ms.map V.int ∧ ms.length ≤ ns.length ∧ ∀ m ∈ ms, m ∈ ns := by
  have h : ∀ xs : List V, (∀ x ∈ xs, x ∈ ns.map V.int) → ∃ ms : List Int, xs = ms.map V.int ∧ ∀ m ∈ ms, m ∈ ns := fun xs => by
    induction xs with
    | nil => exact fun _ => ⟨[], rfl, fun _ m => nomatch m⟩
    | cons x xs ih =>
      intro hx
      obtain ⟨i, hi, rfl⟩ := List.mem_map.mp (hx x List.mem_cons_self)
      obtain ⟨ms, rfl, hm⟩ := ih fun y m => hx y (List.mem_cons_of_mem _ m)
      refine ⟨i :: ms, rfl, fun m e => ?_⟩
      rcases List.mem_cons.mp e with rfl | e
      · exact hi
      · exact hm m e
  obtain ⟨ms, e, hm⟩ := h _ fun x m => cutV_mem m
  refine ⟨ms, e, ?_, hm⟩
  have := cutV_len (ns.map V.int) lo hi
  rw [e, List.length_map, List.length_map] at this
  exact this
/-! ### new things with the heap left closed -/
section
variable {K : PySem.W.Frag} {H : Hp} {Q : VK}
theorem newE {o : HO} (q : ∀ (p : Addr) (H' : Hp), H p = none → Ex H H' → H' p = some o → Q (.ref p) H') : ∀ p, H p = none → Q (.ref p) (upd H p o) := fun p np => q p _ np (Ex.new np) upd_same
theorem slE {a : Addr} {lo hi : Option Int} {row : List Int} (h : SqL K H a (row.map V.int)) (q : ∀ (p : Addr) (H' : Hp) (ms : List Int), H p = none → Ex H H' → H' p = some (.lst (ms.map V.int)) → ms.length ≤ row.length → (∀ m ∈ ms, m ∈ row) → Q (.ref p) H') : rSlL K (.ref a) lo hi H Q := by
  obtain ⟨ms, e, l, i⟩ := cut_ints row lo hi
  refine slL h fun z nz => ?_
  rw [e]
  exact q z _ ms nz (Ex.new nz) upd_same l i
theorem slXE {a : Addr} {lo hi : Option Int} {xs : List V} (h : SqL K H a xs) (q : ∀ (p : Addr) (H' : Hp) (ys : List V), H p = none → Ex H H' → H' p = some (.lst ys) → ys = cutV xs lo hi → ys.length ≤ xs.length → (∀ m ∈ ys, m ∈ xs) → Q (.ref p) H') : rSlL K (.ref a) lo hi H Q :=
  slL h fun z nz => q z _ _ nz (Ex.new nz) upd_same rfl (cutV_len _ _ _) fun m hm => cutV_mem hm
theorem catE {a b : Addr} {xs ys : List V} (h : H a = some (.lst xs)) (hb : H b = some (.lst ys)) (hz : xs.length + ys.length ≤ 100000) (q : ∀ (p : Addr) (H' : Hp), H p = none → Ex H H' → H' p = some (.lst (xs ++ ys)) → Q (.ref p) H') : rCat (.ref a) (.ref b) H Q :=
  catL h hb (sz_ok hz) (newE q)
theorem repE {a : Addr} {xs : List V} {k : Nat} (h : H a = some (.lst xs)) (hk : k ≤ 100000) (hz : xs.length * k ≤ 100000) (q : ∀ (p : Addr) (H' : Hp), H p = none → Ex H H' → H' p = some (.lst (List.replicate k xs).flatten) → Q (.ref p) H') : rRep (.ref a) (.int k) H Q :=
  repL h (by omega) (by omega) (sz_ok (by simpa using hz)) (by simpa using newE q)
theorem lstE {xs : List V} (hz : xs.length ≤ 100000) (q : ∀ (p : Addr) (H' : Hp), H p = none → Ex H H' → H' p = some (.lst xs) → Q (.ref p) H') : xs.length ≤ sizeLine ∧ ∀ p, H p = none → Q (.ref p) (upd H p (.lst xs)) := ⟨sz_ok hz, newE q⟩
theorem tupE {xs : List V} (hz : xs.length ≤ 100000) (q : ∀ (p : Addr) (H' : Hp), H p = none → Ex H H' → H' p = some (.tup xs) → Q (.ref p) H') : xs.length ≤ sizeLine ∧ ∀ p, H p = none → Q (.ref p) (upd H p (.tup xs)) := ⟨sz_ok hz, newE q⟩
end
end BC

set_option Elab.async false
set_option linter.all false
set_option maxRecDepth 100000
set_option maxHeartbeats 4000000
/-! sorted(set(xs)), len(set(xs)) of a longer list of numbers, with doubles -/
namespace BC
open PySem PySem.Spec PyProof.Rows L2 Evl RZ
theorem sub_len : ∀ {a b : List Int}, a.Nodup → (∀ x ∈ a, x ∈ b) → a.length ≤ b.length
  | [], _, _, _ => Nat.zero_le _
  | x :: a, b, nd, h => by
    rw [List.nodup_cons] at nd
    have hx := h x List.mem_cons_self
    have ih := sub_len (a := a) (b := b.erase x) nd.2 fun y hy => (List.mem_erase_of_ne (fun e => nd.1 (by rw [← e]; exact hy))).mpr (h y (List.mem_cons_of_mem _ hy))
    rw [List.length_erase_of_mem hx] at ih
    have := List.length_pos_of_mem hx
    rw [List.length_cons]
    omega
theorem dup_len {a b : List Int} (nd : a.Nodup) (h : ∀ x ∈ a, x ∈ b) (g : ∀ x ∈ b, x ∈ a) (e : a.length = b.length) : b.Nodup := by
  induction b generalizing a with
  | nil => exact List.nodup_nil
  | cons y b ih =>
    have hy := g y List.mem_cons_self
    have el := List.length_erase_of_mem hy
    have pos := List.length_pos_of_mem hy
    by_cases q : y ∈ b
    · have : a.length ≤ b.length := sub_len nd fun x hx => by
        rcases List.mem_cons.mp (h x hx) with rfl | m
        · exact q
        · exact m
      rw [List.length_cons] at e
      omega
    · rw [List.nodup_cons]
      refine ⟨q, ih (a := a.erase y) (nd.erase y) (fun x hx => ?_) (fun x hx => ?_) ?_⟩
      · have hne := (List.Nodup.mem_erase_iff nd).mp hx
        rcases List.mem_cons.mp (h x hne.2) with rfl | m
        · exact absurd rfl hne.1
        · exact m
      · exact (List.Nodup.mem_erase_iff nd).mpr ⟨fun z => q (by rw [← z]; exact hx), g x (List.mem_cons_of_mem _ hx)⟩
      · rw [List.length_cons] at e
        omega
theorem range_len {a : List Int} {m : Nat} (nd : a.Nodup) (h : ∀ x ∈ a, 0 ≤ x ∧ x < m) : a.length ≤ m := by
  have := sub_len (b := (List.range m).map fun i : Nat => (i : Int)) nd fun x hx => by
    have := h x hx
    exact List.mem_map.mpr ⟨x.toNat, List.mem_range.mpr (by omega), by show ((x.toNat : Nat) : Int) = x; omega⟩
  rw [List.length_map, List.length_range] at this
  exact this
section
variable {w : World} {h : Heap} {a : Addr} {S : Int → Bool} {n m : Nat}
theorem setR_few (R : SetR w h a S n) (hb : ∀ k, S k = true → 0 ≤ k ∧ k < m) : n ≤ m := by
  obtain ⟨o, es, ep, t, ho, hex, hd, g, nd, hm, hbd, hf, hn, hr, hl⟩ := R
  have := range_len (m := m) nd fun x hx => hb x ((hm x).mpr hx)
  rw [List.length_map, Array.length_toList] at this
  omega
theorem setR_count {ns : List Int} (R : SetR w h a (fun j => decide (j ∈ ns)) n) : n = ns.length ↔ ns.Nodup := by
  obtain ⟨o, es, ep, t, ho, hex, hd, g, nd, hm, hbd, hf, hn, hr, hl⟩ := R
  have sub : ∀ x ∈ es.toList.map keyOf, x ∈ ns := fun x hx => of_decide_eq_true ((hm x).mpr hx)
  have sup : ∀ x ∈ ns, x ∈ es.toList.map keyOf := fun x hx => (hm x).mp (decide_eq_true hx)
  have e1 : (es.toList.map keyOf).length = n := by rw [List.length_map, Array.length_toList]; exact hn
  constructor
  · intro e
    exact dup_len nd sub sup (by rw [e1]; exact e)
  · intro q
    have := sub_len q sup
    have := sub_len nd sub
    omega
end
section
variable {X : Cx} {K : PySem.W.Frag} {a : Expr} {ta : TE} {p p2 q pos : Pos}
/-- sorted(set(xs)): numbers below 60, as many as there are -/
def tSortSetB (K : PySem.W.Frag) (ta : TE) : TE := fun σ H Q => ta σ H fun x H1 => ∃ (l : Addr) (ns : List Int), x = .ref l ∧ SqL K H1 l (ns.map V.int) ∧ ns.length ≤ 4000 ∧ (∀ k ∈ ns, 0 ≤ k ∧ k < (60 : Nat)) ∧
  ∀ (ms : List Int) r, ms.Pairwise (· < ·) → (∀ k : Int, k ∈ ms ↔ k ∈ ns) → H1 r = none → Q (.ref r) (upd H1 r (.lst (ms.map V.int)))
theorem k_sortSetB (hK : X.K = K) (hg : Gl X "sorted") (hm : X.mg "sorted" = none) (hg2 : Gl X "set") (hm2 : X.mg "set" = none) (ha : PE X a ta) (hc : X.calm = true := by rfl)
    (na : starEach [a] X.env = (false, eval a X.env) :: starEach [] X.env := by rfl) : PE X (.Call (.Name "sorted" p) [.Call (.Name "set" p2) [a] [] q] [] pos) (tSortSetB K ta) := by
  subst hK
  refine ⟨fun pins s σ H Q I h => ?_⟩
  refine Call_ (ld_blt I hg hm (show bootBuiltins ("sorted" : Str) = some (.builtin "sorted") by decide +kernel) ?_)
  refine callWith_builtin1 (args_cons ?_ rfl) rfl rfl
  refine Call_ (ld_blt I hg2 hm2 boot_set ?_)
  refine callWith_type1 (args_cons (thn (ha.run pins s σ H _ I h) fun v s1 ⟨x, H1, I1, r1, q1⟩ => args_nil ?_) na) na rfl
  obtain ⟨l, ns, rfl, hq, hl, hb, q1⟩ := q1
  cases r1
  obtain ⟨its, r, pl, hz⟩ := I1.list hq
  refine set_of_list ns (I1.ok.hd hc) pl.isList (by simpa using intsAre_vals r) (by unfold scanBound; omega) fun h' tk c hS hcl hk => ?_
  refine args_nil ?_
  have I2 : Inv X pins σ H1 { s1 with heap := h', toks := tk } := I1.kept hk
  have few60 := setR_few (m := 60) hS fun k hk => hb k (of_decide_eq_true hk)
  refine sorted_set hS (I2.ok.hd hc) (by omega) fun s' p out c2 ms k g o hp hg hi hs hm hlen => ?_
  have few : (ms.map V.int).length ≤ sizeLine := by rw [List.length_map, hlen, sizeLine_eq]; omega
  have hn : H1 p = none := I2.hok.fresh hp
  have J : Inv X pins σ (upd H1 p (.lst (ms.map V.int))) { ({ s1 with heap := h', toks := tk } : Shared) with heap := s'.heap, gens := s'.gens, drawn := s'.drawn, toks := s'.toks } :=
    I2.call (ch := []) (Un.laid k hp hn) (I2.hok.laid k hp ⟨few, out.toList, c2, vals_of_ints hi, hg⟩) (by rw [g]; exact I2.bare) (fun _ z => nomatch z)
  have e : s' = { ({ s1 with heap := h', toks := tk } : Shared) with heap := s'.heap, gens := s'.gens, drawn := s'.drawn, toks := s'.toks } := by
    cases s'
    cases o
    rfl
  rw [e]
  exact ⟨.ref p, _, J, rfl, q1 ms p hs (fun k => by rw [hm k, decide_eq_true_eq]) hn⟩
theorem x_sortSetB {σ : L2.St} {H : Hp} {Q : VK} : tSortSetB K ta σ H Q = ta σ H fun x H1 => ∃ (l : Addr) (ns : List Int), x = .ref l ∧ SqL K H1 l (ns.map V.int) ∧ ns.length ≤ 4000 ∧ (∀ k ∈ ns, 0 ≤ k ∧ k < (60 : Nat)) ∧
  ∀ (ms : List Int) r, ms.Pairwise (· < ·) → (∀ k : Int, k ∈ ms ↔ k ∈ ns) → H1 r = none → Q (.ref r) (upd H1 r (.lst (ms.map V.int))) := rfl
/-- len(set(xs)): as many as the list has just where nothing stands twice -/
def tLenSetA (K : PySem.W.Frag) (ta : TE) : TE := fun σ H Q => ta σ H fun x H1 => ∃ (l : Addr) (ns : List Int), x = .ref l ∧ SqL K H1 l (ns.map V.int) ∧ ns.length ≤ 4000 ∧ ∀ n : Nat, (n = ns.length ↔ ns.Nodup) → n ≤ ns.length → Q (.int (n : Nat)) H1
theorem k_lenSetA (hK : X.K = K) (hg : Gl X "len") (hm : X.mg "len" = none) (hg2 : Gl X "set") (hm2 : X.mg "set" = none) (ha : PE X a ta) (hc : X.calm = true := by rfl)
    (na : starEach [a] X.env = (false, eval a X.env) :: starEach [] X.env := by rfl) : PE X (.Call (.Name "len" p) [.Call (.Name "set" p2) [a] [] q] [] pos) (tLenSetA K ta) := by
  subst hK
  refine ⟨fun pins s σ H Q I h => ?_⟩
  refine Call_ (ld_blt I hg hm boot_len ?_)
  refine callWith_builtin1 (args_cons ?_ rfl) rfl rfl
  refine Call_ (ld_blt I hg2 hm2 boot_set ?_)
  refine callWith_type1 (args_cons (thn (ha.run pins s σ H _ I h) fun v s1 ⟨x, H1, I1, r1, q1⟩ => args_nil ?_) na) na rfl
  obtain ⟨l, ns, rfl, hq, hl, q1⟩ := q1
  cases r1
  obtain ⟨its, r, pl, hz⟩ := I1.list hq
  refine set_of_list ns (I1.ok.hd hc) pl.isList (by simpa using intsAre_vals r) (by unfold scanBound; omega) fun h' tk c hS hcl hk => ?_
  refine args_nil ?_
  have I2 : Inv X pins σ H1 { s1 with heap := h', toks := tk } := I1.kept hk
  have cnt := setR_count hS
  obtain ⟨o, es, ep, t, ho, hex, hd, _, _, _, hbd, hf, hn, _, _⟩ := hS
  exact call_len_set ho hex hd hf (by rw [hn]; omega) ⟨.int c, H1, I2.tok _, ⟨_, by rw [hn]⟩, q1 c cnt hcl⟩
theorem x_lenSetA {σ : L2.St} {H : Hp} {Q : VK} : tLenSetA K ta σ H Q = ta σ H fun x H1 => ∃ (l : Addr) (ns : List Int), x = .ref l ∧ SqL K H1 l (ns.map V.int) ∧ ns.length ≤ 4000 ∧ ∀ n : Nat, (n = ns.length ↔ ns.Nodup) → n ≤ ns.length → Q (.int (n : Nat)) H1 := rfl
end
end BC

set_option Elab.async false
set_option linter.all false
set_option maxRecDepth 100000
set_option maxHeartbeats 4000000
/-! whether any value is a site; a list held against the empty one -/
namespace BC
open PySem PySem.Spec PyProof.Rows L2 Evl
section
variable {X : Cx} {K : PySem.W.Frag}
/-- == of any list and an empty one -/
def rEqNil (K : PySem.W.Frag) : R2 := fun x y H Q => ∃ (a b : Addr) (xs : List V), x = .ref a ∧ y = .ref b ∧ SqL K H a xs ∧ SqL K H b [] ∧ Q (.bl (decide (xs = []))) H
theorem k_eqNil (hK : X.K = K) (hu : X.A.units + 64 < cLine) : OpR X (compareOp .Eq) (rEqNil K) := by
  subst hK
  intro pins s σ H x y v u Q I rx ry h
  obtain ⟨a, b, xs, rfl, rfl, ha, hb, q⟩ := h
  cases rx
  cases ry
  obtain ⟨its, r, p1, _⟩ := I.list ha
  obtain ⟨its2, r2, p2, _⟩ := I.list hb
  have z2 : its2 = [] := by cases r2; rfl
  subst z2
  have lr := r.length
  cases xs with
  | nil =>
    have z1 : its = [] := by cases r; rfl
    subst z1
    rw [decide_eq_true rfl] at q
    exact SeqAt.eq_listAt (e := fun _ => true) p1.isList p2.isList rfl (by omega) (fun j h1 _ => absurd h1 (by simp)) ⟨.bl true, H, I, rfl, q⟩
  | cons x xs =>
    rw [decide_eq_false (by simp)] at q
    exact SeqAt.eq_list_lengthsAt p1.isList p2.isList (by simp; intro e; subst e; simp at lr) (by omega) ⟨.bl false, H, I, rfl, q⟩
theorem eqNil {a b : Addr} {xs : List V} {H : Hp} {Q : VK} (ha : SqL K H a xs) (hb : SqL K H b []) (q : Q (.bl (decide (xs = []))) H) : rEqNil K (.ref a) (.ref b) H Q := ⟨a, b, xs, rfl, rfl, ha, hb, q⟩
end
/-! ### the plain law -/
def inD (lo hi : Int) : PyData → Bool
  | .int i => decide (lo ≤ i) && decide (i ≤ hi)
  | _ => false
def numD : PyData → Int
  | .int i => i
  | _ => 0
/-- is the value a row of links of page i among m pages? -/
def isRowD (i : Nat) (m : Int) : PyData → Bool
  | .list ds => if ds.all (inD 0 (m - 1)) = true then decide ((i : Int) ∉ ds.map numD) && decide ((ds.map numD).Pairwise (· < ·)) else false
  | _ => false
def isSiteD : PyData → Bool
  | .list ds => if 1 ≤ ds.length ∧ ds.length ≤ 12 then (List.range ds.length).all fun i => isRowD i ds.length (ds.getD i .none) else false
  | _ => false
/-- the law's own look at a row -/
def netRow (m : Int) (i : Nat) : Int → List PyData → Bool
  | _, [] => true
  | last, .int x :: ds => if x ≤ last ∨ x ≥ m then false else if x = i then false else netRow m i x ds
  | _, .none :: _ => false
  | _, .bool _ :: _ => false
  | _, .str _ :: _ => false
  | _, .list _ :: _ => false
  | _, .tuple _ :: _ => false
  | _, .dict _ :: _ => false
theorem netRow_iff (m : Int) (i : Nat) : ∀ (ds : List PyData) (last : Int), -1 ≤ last → (netRow m i last ds = true ↔ (ds.all (inD 0 (m - 1)) = true ∧ (i : Int) ∉ ds.map numD ∧ (ds.map numD).Pairwise (· < ·) ∧ ∀ n ∈ ds.map numD, last < n)) := by
  intro ds
  induction ds with
  | nil => intro last _; simp [netRow]
  | cons d ds ih =>
    intro last hl
    cases d with
    | int x =>
      simp only [netRow, List.map_cons, List.all_cons, numD, List.mem_cons, List.pairwise_cons]
      by_cases c1 : x ≤ last ∨ x ≥ m
      · rw [if_pos c1]
        constructor
        · intro h; cases h
        · rintro ⟨h1, h2, h3, h4⟩
          have := h4 x (.inl rfl)
          simp [inD] at h1
          omega
      · rw [if_neg c1]
        by_cases c2 : x = (i : Int)
        · rw [if_pos c2]
          constructor
          · intro h; cases h
          · rintro ⟨_, h2, _⟩
            exact absurd (.inl c2.symm) h2
        · rw [if_neg c2, ih x (by omega)]
          constructor
          · rintro ⟨h1, h2, h3, h4⟩
            refine ⟨?_, ?_, ⟨h4, h3⟩, ?_⟩
            · rw [h1]
              simp [inD]
              omega
            · rintro (h | h)
              · exact c2 h.symm
              · exact h2 h
            · rintro n (rfl | h)
              · omega
              · have := h4 n h; omega
          · rintro ⟨h1, h2, ⟨h3, h5⟩, h4⟩
            rw [Bool.and_eq_true] at h1
            exact ⟨h1.2, fun h => h2 (.inr h), h5, h3⟩
    | _ =>
      constructor
      · intro h; cases h
      · rintro ⟨h1, _⟩
        simp [inD] at h1
theorem netRow_row (m : Int) (i : Nat) (ds : List PyData) : netRow m i (-1) ds = isRowD i m (.list ds) := by
  have h := netRow_iff m i ds (-1) (by omega)
  show _ = (if ds.all (inD 0 (m - 1)) = true then decide ((i : Int) ∉ ds.map numD) && decide ((ds.map numD).Pairwise (· < ·)) else false)
  by_cases c : ds.all (inD 0 (m - 1)) = true
  · rw [if_pos c]
    have nn : ∀ n ∈ ds.map numD, -1 < n := fun n hn => by
      obtain ⟨d, hd, rfl⟩ := List.mem_map.mp hn
      have := List.all_eq_true.mp c d hd
      cases d <;> simp [inD, numD] at this ⊢
      omega
    cases e : netRow m i (-1) ds with
    | true =>
      obtain ⟨_, h2, h3, _⟩ := h.mp e
      rw [decide_eq_true h2, decide_eq_true h3]
      rfl
    | false =>
      symm
      rw [Bool.and_eq_false_iff]
      by_cases c2 : (i : Int) ∈ ds.map numD
      · exact .inl (decide_eq_false (fun z => z c2))
      · refine .inr (decide_eq_false fun c3 => ?_)
        rw [h.mpr ⟨c, c2, c3, nn⟩] at e
        cases e
  · rw [if_neg c]
    cases e : netRow m i (-1) ds with
    | true => exact absurd (h.mp e).1 c
    | false => rfl
/-! ### values whose lists are not too long -/
def LenL (d : PyData) : Prop := ∀ es, d = .list es → es.length ≤ 4000
def RowsL (d : PyData) : Prop := ∀ ds, d = .list ds → ∀ e ∈ ds, LenL e
/-- shown in few signs, itself not too long -/
def Sw (K : PySem.W.Frag) (H : Hp) (n W : Nat) (v : V) : Prop := ∃ d, De K H v d ∧ Gd n W d ∧ LenL d
/-- shown in few signs, its items not too long -/
def Sr (K : PySem.W.Frag) (H : Hp) (n W : Nat) (v : V) : Prop := ∃ d, De K H v d ∧ Gd n W d ∧ RowsL d
section
variable {K : PySem.W.Frag} {H H' : Hp} {n W : Nat} {v : V}
theorem Gd.intB {i : Int} {k : Nat} (h : i.natAbs < 2 ^ k) (h0 : 0 < k) (hk : k ≤ 128) : Gd 0 k (.int i) := by
  have hl : i.natAbs.log2 < k := log2_small h0 h
  have h2 : i.natAbs < 10 ^ 39 := Nat.lt_of_lt_of_le h (Nat.le_trans (Nat.pow_le_pow_right (by decide) hk) (by decide +kernel))
  refine ⟨?_, ?_, Nat.le_refl _, ?_⟩
  · show decide (i.natAbs.log2 < 1920) = true
    exact decide_eq_true (by omega)
  · show decide ((PyData.shown (.int i)).length ≤ 40) = true
    refine decide_eq_true ?_
    have e := int_text_length_le10 (k := 39) (by decide) h2
    simp only [PyData.shown]
    rw [show ((toString i : String) : Str).length = (toString i).length from PySem.ofString_length _]
    omega
  · simp only [PyData.weight]
    split
    · omega
    · omega
theorem Sw.ex (h : Sw K H n W v) (e : Ex H H') : Sw K H' n W v := by
  obtain ⟨d, a, g⟩ := h
  exact ⟨d, De.ex e d v a, g⟩
theorem Sr.ex (h : Sr K H n W v) (e : Ex H H') : Sr K H' n W v := by
  obtain ⟨d, a, g⟩ := h
  exact ⟨d, De.ex e d v a, g⟩
theorem Sw.mono {n2 W2 : Nat} (h : Sw K H n W v) (a : n ≤ n2) (b : W ≤ W2) : Sw K H n2 W2 v := by
  obtain ⟨d, x, g, l⟩ := h
  exact ⟨d, x, g.mono a b, l⟩
theorem Sr.mono {n2 W2 : Nat} (h : Sr K H n W v) (a : n ≤ n2) (b : W ≤ W2) : Sr K H n2 W2 v := by
  obtain ⟨d, x, g, l⟩ := h
  exact ⟨d, x, g.mono a b, l⟩
theorem Sw.non : Sw K H n W .non := ⟨_, .non, Gd.non.mono (Nat.zero_le _) (Nat.zero_le _), fun _ e => by cases e⟩
theorem Sw.bl (b : Bool) : Sw K H n W (.bl b) := ⟨_, .bl b, (Gd.bl b).mono (Nat.zero_le _) (Nat.zero_le _), fun _ e => by cases e⟩
theorem Sw.int {i : Int} {k : Nat} (h : i.natAbs < 2 ^ k) (h0 : 0 < k) (hk : k ≤ 128) (hW : k ≤ W) : Sw K H n W (.int i) := ⟨_, .int i, (Gd.intB h h0 hk).mono (Nat.zero_le _) hW, fun _ e => by cases e⟩
theorem Sw.str {x : Str} (h : (PyData.str x).leavesShort 40 = true) (hW : x.cps.size ≤ W) : Sw K H n W (.str x) := ⟨_, .str x, (Gd.str h).mono (Nat.zero_le _) hW, fun _ e => by cases e⟩
theorem Sw.dic {a : Addr} (h : H a = some (.dK [])) (hn : 1 ≤ n) : Sw K H n W (.ref a) := ⟨_, .dic h, Gd.dic.mono hn (Nat.zero_le _), fun _ e => by cases e⟩
theorem sw_all {xs : List V} (h : ∀ x ∈ xs, Sw K H n W x) : ∃ ds, DeAll K H xs ds ∧ (∀ d ∈ ds, Gd n W d) ∧ (∀ d ∈ ds, LenL d) ∧ ds.length = xs.length := by
  induction xs with
  | nil => exact ⟨[], .nil, (fun _ m => nomatch m), (fun _ m => nomatch m), rfl⟩
  | cons x xs ih =>
    obtain ⟨d, a, g, q⟩ := h x List.mem_cons_self
    obtain ⟨ds, b, c, r, l⟩ := ih fun y m => h y (List.mem_cons_of_mem _ m)
    refine ⟨d :: ds, .cons a b, fun e m => ?_, fun e m => ?_, by simp [l]⟩
    · rcases List.mem_cons.mp m with rfl | m
      · exact g
      · exact c e m
    · rcases List.mem_cons.mp m with rfl | m
      · exact q
      · exact r e m
theorem Sw.lst {a : Addr} {xs : List V} {W2 n2 : Nat} (h : SqL K H a xs) (hx : ∀ x ∈ xs, Sw K H n W x) (hl : xs.length ≤ 4000) (hn : n + 1 ≤ n2) (hW : (W + 1) * xs.length ≤ W2) : Sw K H n2 W2 (.ref a) := by
  obtain ⟨ds, b, c, q, l⟩ := sw_all hx
  exact ⟨.list ds, .lst h b, (Gd.list c).mono hn (by rw [l]; exact hW), fun es e => by cases e; omega⟩
theorem Sr.lst {a : Addr} {xs : List V} {W2 n2 : Nat} (h : SqL K H a xs) (hx : ∀ x ∈ xs, Sw K H n W x) (hn : n + 1 ≤ n2) (hW : (W + 1) * xs.length ≤ W2) : Sr K H n2 W2 (.ref a) := by
  obtain ⟨ds, b, c, q, l⟩ := sw_all hx
  exact ⟨.list ds, .lst h b, (Gd.list c).mono hn (by rw [l]; exact hW), fun es e f m => by cases e; exact q f m⟩
theorem Sw.tup {a : Addr} {xs : List V} {W2 n2 : Nat} (h : SqT K H a xs) (hx : ∀ x ∈ xs, Sw K H n W x) (hn : n + 1 ≤ n2) (hW : (W + 1) * xs.length ≤ W2) : Sw K H n2 W2 (.ref a) := by
  obtain ⟨ds, b, c, q, l⟩ := sw_all hx
  exact ⟨.tuple ds, .tup h b, (Gd.tuple c).mono hn (by rw [l]; exact hW), fun es e => by cases e⟩
/-- what is no list is asked no more -/
theorem Sw.sr {d : PyData} (a : De K H v d) (g : Gd n W d) (h : ∀ es, d ≠ .list es) : Sr K H n W v := ⟨d, a, g, fun es e => absurd e (h es)⟩
theorem Sr.non : Sr K H n W .non := Sw.sr .non (Gd.non.mono (Nat.zero_le _) (Nat.zero_le _)) (fun _ e => by cases e)
theorem Sr.bl (b : Bool) : Sr K H n W (.bl b) := Sw.sr (.bl b) ((Gd.bl b).mono (Nat.zero_le _) (Nat.zero_le _)) (fun _ e => by cases e)
theorem Sr.int {i : Int} {k : Nat} (h : i.natAbs < 2 ^ k) (h0 : 0 < k) (hk : k ≤ 128) (hW : k ≤ W) : Sr K H n W (.int i) := Sw.sr (.int i) ((Gd.intB h h0 hk).mono (Nat.zero_le _) hW) (fun _ e => by cases e)
theorem Sr.str {x : Str} (h : (PyData.str x).leavesShort 40 = true) (hW : x.cps.size ≤ W) : Sr K H n W (.str x) := Sw.sr (.str x) ((Gd.str h).mono (Nat.zero_le _) hW) (fun _ e => by cases e)
theorem Sr.dic {a : Addr} (h : H a = some (.dK [])) (hn : 1 ≤ n) : Sr K H n W (.ref a) := Sw.sr (.dic h) (Gd.dic.mono hn (Nat.zero_le _)) (fun _ e => by cases e)
theorem Sr.tup {a : Addr} {xs : List V} {W2 n2 : Nat} (h : SqT K H a xs) (hx : ∀ x ∈ xs, Sw K H n W x) (hn : n + 1 ≤ n2) (hW : (W + 1) * xs.length ≤ W2) : Sr K H n2 W2 (.ref a) := by
  obtain ⟨ds, b, c, q, l⟩ := sw_all hx
  exact ⟨.tuple ds, .tup h b, (Gd.tuple c).mono hn (by rw [l]; exact hW), fun es e => by cases e⟩
theorem sw_ints {ns : List Int} {k : Nat} (h : ∀ i ∈ ns, i.natAbs < 2 ^ k) (h0 : 0 < k) (hk : k ≤ 128) (hW : k ≤ W) : ∀ x ∈ ns.map V.int, Sw K H n W x := fun x m => by
  obtain ⟨i, hi, rfl⟩ := List.mem_map.mp m
  exact .int (h i hi) h0 hk hW
/-- a list of numbers below 256 -/
theorem Sw.row {a : Addr} {ns : List Int} {n2 W2 : Nat} (h : SqL K H a (ns.map V.int)) (hb : ∀ i ∈ ns, i.natAbs < 256) (hl : ns.length ≤ 4000) (hn : 1 ≤ n2) (hW : 9 * ns.length ≤ W2) : Sw K H n2 W2 (.ref a) :=
  Sw.lst (n := 0) (W := 8) h (sw_ints (k := 8) hb (by omega) (by omega) (Nat.le_refl _)) (by rw [List.length_map]; exact hl) hn (by rw [List.length_map]; exact hW)
/-- the rows of a grid -/
theorem grid_sw {s : Addr} {G : Grid} (h : GridAt H s G) {m : Nat} (hr : ∀ i, (row G i).length ≤ m ∧ ∀ x ∈ row G i, x < 256) (hm : m ≤ 4000) : ∃ xs, H s = some (.lst xs) ∧ xs.length = G.length ∧ ∀ x ∈ xs, Sw K H 1 (9 * m) x := by
  obtain ⟨xs, h1, h2, h3⟩ := h.lst
  refine ⟨xs, h1, h2, fun x hx => ?_⟩
  obtain ⟨i, hi⟩ := List.getElem?_of_mem hx
  obtain ⟨_, p, rfl, hp⟩ := h3 i x hi
  have q := hr i
  refine Sw.row (.inl (.inl hp)) (fun n hn => ?_) (by rw [nz_len]; omega) (Nat.le_refl _) (by rw [nz_len]; exact Nat.mul_le_mul_left _ q.1)
  obtain ⟨y, hy, rfl⟩ := List.mem_map.mp hn
  have := q.2 y hy
  show ((y : Nat) : Int).natAbs < 256
  omega
end
end BC

set_option Elab.async false
set_option linter.all false
set_option maxRecDepth 100000
set_option maxHeartbeats 4000000
/-! first pages and exits judged: by the way to the root, and by as many steps as there are pages -/
namespace EF
open PySem PySem.Spec PyProof.Rows L2 BC TR
def it (f : Int → Int) : Nat → Int → Int
  | 0, p => p
  | n + 1, p => it f n (f p)
theorem it_add (f : Int → Int) : ∀ (i m : Nat) (p : Int), it f (i + m) p = it f m (it f i p)
  | 0, m, p => by rw [Nat.zero_add]; rfl
  | i + 1, m, p => by
    rw [show i + 1 + m = (i + m) + 1 by omega]
    show it f (i + m) (f p) = it f m (it f i (f p))
    exact it_add f i m (f p)
theorem it_fix {f : Int → Int} {r : Int} (h : f r = r) : ∀ m, it f m r = r
  | 0 => rfl
  | m + 1 => by
    show it f m (f r) = r
    rw [h]
    exact it_fix h m
theorem it_last (f : Int → Int) (n : Nat) (p : Int) : it f (n + 1) p = f (it f n p) := it_add f n 1 p
theorem it_in {f : Int → Int} {S : List Int} (h : ∀ x ∈ S, f x ∈ S) : ∀ (n : Nat) {p : Int}, p ∈ S → it f n p ∈ S
  | 0, p, hp => hp
  | n + 1, p, hp => it_in h n (h p hp)
theorem lead_iff {f : Int → Int} {r : Int} : ∀ (n : Nat) (p : Int), lead f r n p = true ↔ ∃ k, k < n ∧ it f k p = r
  | 0, p => ⟨fun h => (by cases h), fun ⟨k, h, _⟩ => (by omega)⟩
  | n + 1, p => by
    show (if p = r then true else lead f r n (f p)) = true ↔ _
    by_cases c : p = r
    · rw [if_pos c]
      exact ⟨fun _ => ⟨0, Nat.succ_pos _, c⟩, fun _ => rfl⟩
    · rw [if_neg c, lead_iff n (f p)]
      constructor
      · rintro ⟨k, h1, h2⟩
        exact ⟨k + 1, by omega, h2⟩
      · rintro ⟨k, h1, h2⟩
        cases k with
        | zero => exact absurd h2 c
        | succ k => exact ⟨k, by omega, h2⟩
theorem subLen {l m : List Int} (nd : l.Nodup) (h : ∀ x ∈ l, x ∈ m) : l.length ≤ m.length := by
  induction l generalizing m with
  | nil => exact Nat.zero_le _
  | cons a l ih =>
    rw [List.nodup_cons] at nd
    have ha := h a List.mem_cons_self
    have := ih nd.2 (m := m.erase a) fun x hx => (List.mem_erase_of_ne (fun e => nd.1 (by rw [← e]; exact hx))).mpr (h x (List.mem_cons_of_mem _ hx))
    rw [List.length_erase_of_mem ha] at this
    have : 0 < m.length := List.length_pos_of_mem ha
    rw [List.length_cons]
    omega
/-- the way of a page ends, if at all, within as many steps as there are pages -/
theorem lead_due {f : Int → Int} {S : List Int} {r p : Int} (hc : ∀ x ∈ S, f x ∈ S) (hr : r ∈ S) (fr : f r = r) (hu : ∀ x ∈ S, f x = x → x = r) (hp : p ∈ S) : lead f r S.length p = decide (f (it f S.length p) = it f S.length p) := by
  have key : lead f r S.length p = true ↔ f (it f S.length p) = it f S.length p := by
    rw [lead_iff]
    constructor
    · rintro ⟨k, h1, h2⟩
      have : it f S.length p = r := by
        rw [show S.length = k + (S.length - k) by omega, it_add, h2, it_fix fr]
      rw [this, fr]
    · intro h
      have hn := hu _ (it_in hc _ hp) h
      by_cases q : ∃ k, k < S.length ∧ it f k p = r
      · exact q
      · exfalso
        have ne : ∀ k, k < S.length → it f k p ≠ r := fun k h1 h2 => q ⟨k, h1, h2⟩
        have nd : ((List.range S.length).map fun k => it f k p).Nodup := by
          unfold List.Nodup
          rw [List.pairwise_map]
          refine List.pairwise_lt_range.imp_of_mem fun {i j} hi hj hij e => ?_
          rw [List.mem_range] at hj
          have h1 : it f S.length p = it f (i + (S.length - j)) p := by
            rw [it_add, e, ← it_add, show j + (S.length - j) = S.length by omega]
          rw [hn] at h1
          exact ne (i + (S.length - j)) (by omega) h1.symm
        have h1 := subLen nd (m := S.erase r) fun x hx => by
          obtain ⟨k, hk, rfl⟩ := List.mem_map.mp hx
          exact (List.mem_erase_of_ne (ne k (List.mem_range.mp hk))).mpr (it_in hc k hp)
        rw [List.length_map, List.length_range, List.length_erase_of_mem hr] at h1
        have := List.length_pos_of_mem hr
        omega
  cases c : lead f r S.length p with
  | true => rw [decide_eq_true (key.mp c)]
  | false =>
    refine (decide_eq_false fun h => ?_).symm
    rw [key.mpr h] at c
    cases c
/-- the exit that pairs tell -/
def nxq (qs : List (Int × Int)) (x : Int) : Int := (getI qs x).getD 0
def namesOf (qs : List (Int × Int)) : List Int := qs.map (·.1)
def closedQ (qs : List (Int × Int)) : Bool := qs.all fun q => decide (q.2 ∈ namesOf qs)
/-- as the program judges -/
def okQ (qs : List (Int × Int)) : Bool := decide ((rootsOf qs).length = 1) && decide ((namesOf qs).Pairwise (· < ·)) && closedQ qs && (namesOf qs).all fun p => lead (nxq qs) ((rootsOf qs).headD 0) qs.length p
/-- as the law judges -/
def dueQ (qs : List (Int × Int)) : Bool := decide ((namesOf qs).Pairwise (· < ·)) && closedQ qs && decide ((rootsOf qs).length = 1) && (namesOf qs).all fun p => decide (nxq qs (it (nxq qs) qs.length p) = it (nxq qs) qs.length p)
theorem names_nd {qs : List (Int × Int)} (h : (namesOf qs).Pairwise (· < ·)) : (qs.map (·.1)).Nodup := h.imp fun h => Int.ne_of_lt h
theorem nxq_at {qs : List (Int × Int)} (h : (namesOf qs).Pairwise (· < ·)) {x y : Int} (m : (x, y) ∈ qs) : nxq qs x = y := by
  unfold nxq
  rw [(getI_mem (names_nd h)).mp m]
  rfl
theorem closed_nx {qs : List (Int × Int)} (h : (namesOf qs).Pairwise (· < ·)) (c : closedQ qs = true) : ∀ x ∈ namesOf qs, nxq qs x ∈ namesOf qs := fun x hx => by
  obtain ⟨⟨a, y⟩, m, e⟩ := List.mem_map.mp hx
  have e' : a = x := e
  subst e'
  rw [nxq_at h m]
  exact of_decide_eq_true (List.all_eq_true.mp c _ m)
theorem ok_due (qs : List (Int × Int)) : okQ qs = dueQ qs := by
  unfold okQ dueQ
  cases c1 : decide ((rootsOf qs).length = 1) with
  | false => simp
  | true =>
    cases c2 : decide ((namesOf qs).Pairwise (· < ·)) with
    | false => simp
    | true =>
      cases c3 : closedQ qs with
      | false => simp
      | true =>
        have h1 := of_decide_eq_true c1
        have h2 := of_decide_eq_true c2
        obtain ⟨r, hr⟩ := List.length_eq_one_iff.mp h1
        have hroot : ∀ x, x ∈ rootsOf qs ↔ (x, x) ∈ qs := fun x => by
          unfold rootsOf
          rw [List.mem_map]
          constructor
          · rintro ⟨⟨a, y⟩, m, e⟩
            rw [List.mem_filter, decide_eq_true_eq] at m
            have e1 : a = y := m.2
            have e2 : a = x := e
            subst e1; subst e2
            exact m.1
          · intro m
            exact ⟨(x, x), List.mem_filter.mpr ⟨m, decide_eq_true rfl⟩, rfl⟩
        have hrm : (r, r) ∈ qs := (hroot r).mp (by rw [hr]; exact List.mem_singleton.mpr rfl)
        have fr := nxq_at h2 hrm
        have hrn : r ∈ namesOf qs := List.mem_map.mpr ⟨_, hrm, rfl⟩
        have hu : ∀ x ∈ namesOf qs, nxq qs x = x → x = r := fun x hx e => by
          obtain ⟨⟨a, y⟩, m, e'⟩ := List.mem_map.mp hx
          have e2 : a = x := e'
          subst e2
          rw [nxq_at h2 m] at e
          subst e
          have := (hroot y).mpr m
          rw [hr] at this
          exact List.mem_singleton.mp this
        have hl : (namesOf qs).length = qs.length := List.length_map ..
        simp only [Bool.true_and]
        rw [hr]
        show (namesOf qs).all (fun p => lead (nxq qs) r qs.length p) = _
        have : ∀ l : List Int, (∀ p ∈ l, p ∈ namesOf qs) → (l.all fun p => lead (nxq qs) r qs.length p) = l.all fun p => decide (nxq qs (it (nxq qs) qs.length p) = it (nxq qs) qs.length p) := fun l => by
          induction l with
          | nil => intro _; rfl
          | cons a l ih =>
            intro hm
            rw [List.all_cons, List.all_cons, ih fun p hp => hm p (List.mem_cons_of_mem _ hp)]
            congr 1
            rw [← hl]
            exact lead_due (closed_nx h2 c3) hrn fr hu (hm a List.mem_cons_self)
        exact this _ fun p hp => hp
/-! ### any values -/
def pairD : PyData → Bool
  | .tuple [a, b] => inD 0 39 a && inD 0 39 b
  | _ => false
def qD : PyData → Int × Int
  | .tuple [a, b] => (numD a, numD b)
  | _ => (0, 0)
def exitsD : PyData → Bool
  | .list ds => decide (ds ≠ []) && ds.all pairD && okQ (ds.map qD)
  | _ => false
def pagesD : PyData → List Int
  | .list ds => namesOf (ds.map qD)
  | _ => []
/-- are these values the first page and the exits of visits? -/
def effD : PyData → PyData → Bool
  | .none, .list ds => decide (ds = [])
  | .int i, d => decide (0 ≤ i ∧ i ≤ 39) && exitsD d && decide (i ∈ pagesD d)
  | _, _ => false
end EF

set_option Elab.async false
set_option linter.all false
set_option maxRecDepth 100000
set_option maxHeartbeats 4000000
/-! values that stand in the heap, without dicts -/
namespace EF
open PySem PySem.Spec PyProof.Rows L2 BC TR Evl
mutual
inductive Dx (H : Hp) : V → PyData → Prop
  | non : Dx H .non .none
  | bl (b : Bool) : Dx H (.bl b) (.bool b)
  | int (i : Int) : Dx H (.int i) (.int i)
  | str (x : Str) : Dx H (.str x) (.str x)
  | lst {a : Addr} {xs : List V} {ds : List PyData} : H a = some (.lst xs) → DxAll H xs ds → Dx H (.ref a) (.list ds)
  | tup {a : Addr} {xs : List V} {ds : List PyData} : H a = some (.tup xs) → DxAll H xs ds → Dx H (.ref a) (.tuple ds)
inductive DxAll (H : Hp) : List V → List PyData → Prop
  | nil : DxAll H [] []
  | cons {v : V} {vs : List V} {d : PyData} {ds : List PyData} : Dx H v d → DxAll H vs ds → DxAll H (v :: vs) (d :: ds)
end
section
variable {H H' : Hp}
mutual
theorem Dx.ex (e : Ex H H') : ∀ (d : PyData) (v : V), Dx H v d → Dx H' v d
  | .none, _, h => by cases h; exact .non
  | .bool _, _, h => by cases h; exact .bl _
  | .int _, _, h => by cases h; exact .int _
  | .str _, _, h => by cases h; exact .str _
  | .dict _, _, h => by cases h
  | .list ds, _, h => by
    cases h with
    | lst h1 h2 => exact .lst (e _ _ h1) (DxAll.ex e ds _ h2)
  | .tuple ds, _, h => by
    cases h with
    | tup h1 h2 => exact .tup (e _ _ h1) (DxAll.ex e ds _ h2)
theorem DxAll.ex (e : Ex H H') : ∀ (ds : List PyData) (vs : List V), DxAll H vs ds → DxAll H' vs ds
  | [], _, h => by cases h; exact .nil
  | d :: ds, _, h => by
    cases h with
    | cons h1 h2 => exact .cons (Dx.ex e d _ h1) (DxAll.ex e ds _ h2)
end
variable {K : PySem.W.Frag}
mutual
theorem Dx.dp : ∀ (d : PyData) (v : V), Dx H v d → Dp K H v d
  | .none, _, h => by cases h; exact .non
  | .bool _, _, h => by cases h; exact .bl _
  | .int _, _, h => by cases h; exact .int _
  | .str _, _, h => by cases h; exact .str _
  | .dict _, _, h => by cases h
  | .list ds, _, h => by
    cases h with
    | lst h1 h2 => exact .lst (.inl (.inl h1)) (DxAll.dp ds _ h2)
  | .tuple ds, _, h => by
    cases h with
    | tup h1 h2 => exact .tup (.inl (.inl h1)) (DxAll.dp ds _ h2)
theorem DxAll.dp : ∀ (ds : List PyData) (vs : List V), DxAll H vs ds → DpAll K H vs ds
  | [], _, h => by cases h; exact .nil
  | d :: ds, _, h => by
    cases h with
    | cons h1 h2 => exact .cons (Dx.dp d _ h1) (DxAll.dp ds _ h2)
end
mutual
theorem Dx.de : ∀ (d : PyData) (v : V), Dx H v d → De K H v d
  | .none, _, h => by cases h; exact .non
  | .bool _, _, h => by cases h; exact .bl _
  | .int _, _, h => by cases h; exact .int _
  | .str _, _, h => by cases h; exact .str _
  | .dict _, _, h => by cases h
  | .list ds, _, h => by
    cases h with
    | lst h1 h2 => exact .lst (.inl (.inl h1)) (DxAll.de ds _ h2)
  | .tuple ds, _, h => by
    cases h with
    | tup h1 h2 => exact .tup (.inl (.inl h1)) (DxAll.de ds _ h2)
theorem DxAll.de : ∀ (ds : List PyData) (vs : List V), DxAll H vs ds → DeAll K H vs ds
  | [], _, h => by cases h; exact .nil
  | d :: ds, _, h => by
    cases h with
    | cons h1 h2 => exact .cons (Dx.de d _ h1) (DxAll.de ds _ h2)
end
theorem DxAll.len : ∀ {xs : List V} {ds : List PyData}, DxAll H xs ds → xs.length = ds.length
  | _, _, .nil => rfl
  | _, _, .cons _ h => by rw [List.length_cons, List.length_cons, DxAll.len h]
theorem DxAll.at : ∀ {xs : List V} {ds : List PyData}, DxAll H xs ds → ∀ {j : Nat} {x : V}, xs[j]? = some x → ∃ d, ds[j]? = some d ∧ Dx H x d
  | _, _, .nil, j, x, h => by simp at h
  | _, _, .cons h1 h2, 0, x, h => by
    have e := Option.some.inj h
    subst e
    exact ⟨_, rfl, h1⟩
  | _, _, .cons h1 h2, j + 1, x, h => by
    obtain ⟨d, a, b⟩ := DxAll.at h2 (j := j) (x := x) (by simpa using h)
    exact ⟨d, by simpa using a, b⟩
theorem DxAll.app : ∀ {xs ys : List V} {ds es : List PyData}, DxAll H xs ds → DxAll H ys es → DxAll H (xs ++ ys) (ds ++ es)
  | _, _, _, _, .nil, h => h
  | _, _, _, _, .cons h1 h2, h => .cons h1 (DxAll.app h2 h)
theorem dx_ints : ∀ ns : List Int, DxAll H (ns.map V.int) (ns.map PyData.int)
  | [] => .nil
  | n :: ns => .cons (.int n) (dx_ints ns)
theorem in_num {m : Int} {d : PyData} (h : inD 0 m d = true) : ∃ n : Int, d = .int n ∧ 0 ≤ n ∧ n ≤ m := by
  cases d with
  | int n =>
    have h' : (decide (0 ≤ n) && decide (n ≤ m)) = true := h
    rw [Bool.and_eq_true, decide_eq_true_eq, decide_eq_true_eq] at h'
    exact ⟨n, rfl, h'.1, h'.2⟩
  | _ => cases h
theorem pair_at {d : PyData} (h : pairD d = true) : ∃ a b : Int, d = .tuple [.int a, .int b] ∧ (0 ≤ a ∧ a ≤ 39) ∧ 0 ≤ b ∧ b ≤ 39 := by
  unfold pairD at h
  split at h
  · next a b =>
    rw [Bool.and_eq_true] at h
    obtain ⟨x, rfl, hx⟩ := in_num h.1
    obtain ⟨y, rfl, hy⟩ := in_num h.2
    exact ⟨x, y, rfl, hx, hy⟩
  · cases h
/-- pairs that stand in the heap -/
theorem dx_pairs : ∀ {xs : List V} {ds : List PyData}, DxAll H xs ds → ds.all pairD = true → ∃ ts : List Addr, xs = ts.map V.ref ∧ ts.length = (ds.map qD).length ∧ (∀ (i : Nat) t, ts[i]? = some t → PairAt H t ((ds.map qD).getD i (0, 0))) ∧ ∀ q ∈ ds.map qD, (0 ≤ q.1 ∧ q.1 < 40) ∧ 0 ≤ q.2 ∧ q.2 < 40
  | _, _, .nil, _ => ⟨[], rfl, rfl, fun i t h => by simp at h, fun q h => by simp at h⟩
  | _, _, .cons h1 h2, c => by
    rw [List.all_cons, Bool.and_eq_true] at c
    obtain ⟨a, b, rfl, ha, hb⟩ := pair_at c.1
    obtain ⟨ts, e1, e2, e3, e4⟩ := dx_pairs h2 c.2
    cases h1 with
    | @tup t xs ds g1 g2 =>
      cases g2 with
      | cons u1 u2 =>
        cases u1
        cases u2 with
        | cons u3 u4 =>
          cases u3
          cases u4
          refine ⟨t :: ts, by rw [e1]; rfl, by simpa using e2, fun i u hi => ?_, fun q hq => ?_⟩
          · cases i with
            | zero =>
              have e := Option.some.inj hi
              subst e
              exact g1
            | succ i =>
              have := e3 i u (by simpa using hi)
              simpa using this
          · rw [List.map_cons] at hq
            rcases List.mem_cons.mp hq with rfl | hq
            · exact ⟨⟨ha.1, by show a < 40; omega⟩, hb.1, by show b < 40; omega⟩
            · exact e4 q hq
end
end EF

set_option Elab.async false
set_option linter.all false
set_option maxRecDepth 100000
set_option maxHeartbeats 4000000
namespace LW
open PySem PySem.Spec PyProof.Rows L2 BC Evl TR EF L2.DX
def topS (i : Nat) : Stmt := PySem.Challenge.pw_breadcrumbs_k33_effects_judged.main.body.getD i (.Pass ⟨0, 0, 0, 0⟩)
abbrev s_is_integer : Stmt := topS 6
theorem sc_is_integer : FnScope ["value", "least", "most"] ["value", "least", "most"] (defScope s_is_integer) := ⟨rfl, rfl, rfl, by decide +kernel, rfl, by decide +kernel, by decide +kernel⟩
abbrev s_is_page : Stmt := topS 9
theorem sc_is_page : FnScope ["value"] ["value"] (defScope s_is_page) := ⟨rfl, rfl, rfl, by decide +kernel, rfl, by decide +kernel, by decide +kernel⟩
abbrev s_is_pair : Stmt := topS 13
theorem sc_is_pair : FnScope ["value"] ["value"] (defScope s_is_pair) := ⟨rfl, rfl, rfl, by decide +kernel, rfl, by decide +kernel, by decide +kernel⟩
abbrev s_leads_to_root : Stmt := topS 14
theorem sc_leads_to_root : FnScope ["exit_of", "page", "root", "step"] ["exit_of", "page", "root"] (defScope s_leads_to_root) := ⟨rfl, rfl, rfl, by decide +kernel, rfl, by decide +kernel, by decide +kernel⟩
abbrev s_are_exits : Stmt := topS 15
theorem sc_are_exits : FnScope ["value", "pages", "roots", "exit_of", "page", "later", "pair", "other"] ["value"] (defScope s_are_exits) := ⟨rfl, rfl, rfl, by decide +kernel, rfl, by decide +kernel, by decide +kernel⟩
abbrev s_law_bag : Stmt := topS 18
theorem sc_law_bag : FnScope ["_law_cell", "_law_turn", "_law_size"] ["_law_cell", "_law_turn"] (defScope s_law_bag) := ⟨rfl, rfl, rfl, by decide +kernel, rfl, by decide +kernel, by decide +kernel⟩
abbrev s_law_draw : Stmt := topS 19
theorem sc_law_draw : FnScope ["_law_bag_here", "_law_most", "_law_mixed", "_law_found"] ["_law_bag_here", "_law_most"] (defScope s_law_draw) := ⟨rfl, rfl, rfl, by decide +kernel, rfl, by decide +kernel, by decide +kernel⟩
abbrev s_law_cells : Stmt := topS 20
theorem sc_law_cells : FnScope ["_law_script"] ["_law_script"] (defScope s_law_cells) := ⟨rfl, rfl, rfl, by decide +kernel, rfl, by decide +kernel, by decide +kernel⟩
abbrev s_law_names : Stmt := topS 21
theorem sc_law_names : FnScope ["_law_bag_here", "_law_most", "_law_begin", "_law_size", "_law_spot"] ["_law_bag_here", "_law_most"] (defScope s_law_names) := ⟨rfl, rfl, rfl, by decide +kernel, rfl, by decide +kernel, by decide +kernel⟩
abbrev s_law_row : Stmt := topS 22
theorem sc_law_row : FnScope ["_law_bag_here", "_law_names_here", "_law_most", "_law_turn", "_law_style", "_law_size", "_law_found", "_law_spot"] ["_law_bag_here", "_law_names_here", "_law_most"] (defScope s_law_row) := ⟨rfl, rfl, rfl, by decide +kernel, rfl, by decide +kernel, by decide +kernel⟩
abbrev s_law_pairs : Stmt := topS 23
theorem sc_law_pairs : FnScope ["_law_row_here", "_law_page_here", "_law_found", "_law_later"] ["_law_row_here"] (defScope s_law_pairs) := ⟨rfl, rfl, rfl, by decide +kernel, rfl, by decide +kernel, by decide +kernel⟩
abbrev s_law_is_page : Stmt := topS 24
theorem sc_law_is_page : FnScope ["_law_thing"] ["_law_thing"] (defScope s_law_is_page) := ⟨rfl, rfl, rfl, by decide +kernel, rfl, by decide +kernel, by decide +kernel⟩
abbrev s_law_due : Stmt := topS 25
theorem sc_law_due : FnScope ["_law_begin", "_law_pairs_here", "_law_pair", "_law_names_here", "_law_way", "_law_page_here", "_law_spot", "_law_step", "_law_out", "_law_one"] ["_law_begin", "_law_pairs_here"] (defScope s_law_due) := ⟨rfl, rfl, rfl, by decide +kernel, rfl, by decide +kernel, by decide +kernel⟩
abbrev s_law_bent : Stmt := topS 26
theorem sc_law_bent : FnScope ["_law_bag_here", "_law_begin", "_law_pairs_here", "_law_odd", "_law_bad", "_law_swapped", "_law_rows", "_law_other", "_law_found", "_law_thing", "_law_at", "_law_to", "_law_new", "_law_page_here", "_law_out", "_law_row_here"] ["_law_bag_here", "_law_begin", "_law_pairs_here"] (defScope s_law_bent) := ⟨rfl, rfl, rfl, by decide +kernel, rfl, by decide +kernel, by decide +kernel⟩
abbrev s_law_made : Stmt := topS 27
theorem sc_law_made : FnScope ["_law_way", "_law_begin", "_law_pairs_here", "_law_made_here"] ["_law_way", "_law_begin", "_law_pairs_here"] (defScope s_law_made) := ⟨rfl, rfl, rfl, by decide +kernel, rfl, by decide +kernel, by decide +kernel⟩
abbrev s_law_right : Stmt := topS 28
theorem sc_law_right : FnScope ["_law_script", "_law_bag_here", "_law_names_here", "_law_row_here", "_law_pairs_here", "_law_begin", "_law_due_here", "_law_before", "_law_way", "_law_made_here", "_law_kept"] ["_law_script", "_law_bag_here"] (defScope s_law_right) := ⟨rfl, rfl, rfl, by decide +kernel, rfl, by decide +kernel, by decide +kernel⟩
abbrev s_law : Stmt := topS 29
theorem sc_law : FnScope ["_law_script", "_law_k", "_law_cell"] ["_law_script"] (defScope s_law) := ⟨rfl, rfl, rfl, by decide +kernel, rfl, by decide +kernel, by decide +kernel⟩
abbrev s_Effect___init : Stmt := inClass (topS 16) 0
theorem sc_Effect___init : FnScope ["self", "first", "exits", "is_valid"] ["self", "first", "exits"] (defScope s_Effect___init) := ⟨rfl, rfl, rfl, by decide +kernel, rfl, by decide +kernel, by decide +kernel⟩
abbrev s_Effect_first : Stmt := inClass (topS 16) 1
theorem sc_Effect_first : FnScope ["self"] ["self"] (defScope s_Effect_first) := ⟨rfl, rfl, rfl, by decide +kernel, rfl, by decide +kernel, by decide +kernel⟩
abbrev s_Effect_exits : Stmt := inClass (topS 16) 2
theorem sc_Effect_exits : FnScope ["self"] ["self"] (defScope s_Effect_exits) := ⟨rfl, rfl, rfl, by decide +kernel, rfl, by decide +kernel, by decide +kernel⟩
abbrev s_Effect___len : Stmt := inClass (topS 16) 5
theorem sc_Effect___len : FnScope ["self"] ["self"] (defScope s_Effect___len) := ⟨rfl, rfl, rfl, by decide +kernel, rfl, by decide +kernel, by decide +kernel⟩
structure Txt (K : PySem.W.Frag) (mg : Str → Option Value) where
  C_BreadcrumbsError : Addr
  g_BreadcrumbsError : mg "BreadcrumbsError" = some (.ref C_BreadcrumbsError)
  k_BreadcrumbsError : PySem.W.keepIn K (.ref C_BreadcrumbsError) = true
  x_BreadcrumbsError : PySem.W.excIn K C_BreadcrumbsError [.type "ValueError", .type "Exception", .type "BaseException", .type "object"] "ValueError.__new__" = true
  e_BreadcrumbsError : ExcC K C_BreadcrumbsError
  t_BreadcrumbsError : PySem.W.typeIn K (.ref C_BreadcrumbsError) = some (.type "type")
  b_BreadcrumbsError : PySem.W.subIn K (.ref C_BreadcrumbsError) (.type "BaseException") = some true
  r_BreadcrumbsError : MroIs K C_BreadcrumbsError [C_BreadcrumbsError]
  C_InvalidEffectError : Addr
  g_InvalidEffectError : mg "InvalidEffectError" = some (.ref C_InvalidEffectError)
  k_InvalidEffectError : PySem.W.keepIn K (.ref C_InvalidEffectError) = true
  x_InvalidEffectError : PySem.W.excIn K C_InvalidEffectError [.type "ValueError", .type "Exception", .type "BaseException", .type "object"] "ValueError.__new__" = true
  e_InvalidEffectError : ExcC K C_InvalidEffectError
  t_InvalidEffectError : PySem.W.typeIn K (.ref C_InvalidEffectError) = some (.type "type")
  b_InvalidEffectError : PySem.W.subIn K (.ref C_InvalidEffectError) (.type "BaseException") = some true
  r_InvalidEffectError : MroIs K C_InvalidEffectError [C_InvalidEffectError, C_BreadcrumbsError]
  nd : [C_BreadcrumbsError, C_InvalidEffectError].Nodup
  C_Effect : Addr
  cl_Effect : Cls K C_Effect
  g_Effect : mg "Effect" = some (.ref C_Effect)
  x_Effect : ClsO K C_Effect
  na_Effect_begin_page : NoAttr K C_Effect "begin_page"
  na_Effect_pairs : NoAttr K C_Effect "pairs"
  na_Effect_exit_of : NoAttr K C_Effect "exit_of"
  f_is_integer : Addr
  fd_is_integer : FuncData
  F_is_integer : Fun K "is_integer" "is_integer" s_is_integer f_is_integer fd_is_integer
  m_is_integer : mg "is_integer" = some (.ref f_is_integer)
  b_is_integer : Binds K fd_is_integer ["value", "least", "most"] []
  f_is_page : Addr
  fd_is_page : FuncData
  F_is_page : Fun K "is_page" "is_page" s_is_page f_is_page fd_is_page
  m_is_page : mg "is_page" = some (.ref f_is_page)
  b_is_page : Binds K fd_is_page ["value"] []
  f_is_pair : Addr
  fd_is_pair : FuncData
  F_is_pair : Fun K "is_pair" "is_pair" s_is_pair f_is_pair fd_is_pair
  m_is_pair : mg "is_pair" = some (.ref f_is_pair)
  b_is_pair : Binds K fd_is_pair ["value"] []
  f_leads_to_root : Addr
  fd_leads_to_root : FuncData
  F_leads_to_root : Fun K "leads_to_root" "leads_to_root" s_leads_to_root f_leads_to_root fd_leads_to_root
  m_leads_to_root : mg "leads_to_root" = some (.ref f_leads_to_root)
  b_leads_to_root : Binds K fd_leads_to_root ["exit_of", "page", "root"] []
  f_are_exits : Addr
  fd_are_exits : FuncData
  F_are_exits : Fun K "are_exits" "are_exits" s_are_exits f_are_exits fd_are_exits
  m_are_exits : mg "are_exits" = some (.ref f_are_exits)
  b_are_exits : Binds K fd_are_exits ["value"] []
  f_law_bag : Addr
  fd_law_bag : FuncData
  F_law_bag : Fun K "_law_bag" "_law_bag" s_law_bag f_law_bag fd_law_bag
  m_law_bag : mg "_law_bag" = some (.ref f_law_bag)
  b_law_bag : Binds K fd_law_bag ["_law_cell", "_law_turn"] []
  f_law_draw : Addr
  fd_law_draw : FuncData
  F_law_draw : Fun K "_law_draw" "_law_draw" s_law_draw f_law_draw fd_law_draw
  m_law_draw : mg "_law_draw" = some (.ref f_law_draw)
  b_law_draw : Binds K fd_law_draw ["_law_bag_here", "_law_most"] []
  f_law_cells : Addr
  fd_law_cells : FuncData
  F_law_cells : Fun K "_law_cells" "_law_cells" s_law_cells f_law_cells fd_law_cells
  m_law_cells : mg "_law_cells" = some (.ref f_law_cells)
  b_law_cells : Binds K fd_law_cells ["_law_script"] []
  f_law_names : Addr
  fd_law_names : FuncData
  F_law_names : Fun K "_law_names" "_law_names" s_law_names f_law_names fd_law_names
  m_law_names : mg "_law_names" = some (.ref f_law_names)
  b_law_names : Binds K fd_law_names ["_law_bag_here", "_law_most"] []
  f_law_row : Addr
  fd_law_row : FuncData
  F_law_row : Fun K "_law_row" "_law_row" s_law_row f_law_row fd_law_row
  m_law_row : mg "_law_row" = some (.ref f_law_row)
  b_law_row : Binds K fd_law_row ["_law_bag_here", "_law_names_here", "_law_most"] []
  f_law_pairs : Addr
  fd_law_pairs : FuncData
  F_law_pairs : Fun K "_law_pairs" "_law_pairs" s_law_pairs f_law_pairs fd_law_pairs
  m_law_pairs : mg "_law_pairs" = some (.ref f_law_pairs)
  b_law_pairs : Binds K fd_law_pairs ["_law_row_here"] []
  f_law_is_page : Addr
  fd_law_is_page : FuncData
  F_law_is_page : Fun K "_law_is_page" "_law_is_page" s_law_is_page f_law_is_page fd_law_is_page
  m_law_is_page : mg "_law_is_page" = some (.ref f_law_is_page)
  b_law_is_page : Binds K fd_law_is_page ["_law_thing"] []
  f_law_due : Addr
  fd_law_due : FuncData
  F_law_due : Fun K "_law_due" "_law_due" s_law_due f_law_due fd_law_due
  m_law_due : mg "_law_due" = some (.ref f_law_due)
  b_law_due : Binds K fd_law_due ["_law_begin", "_law_pairs_here"] []
  f_law_bent : Addr
  fd_law_bent : FuncData
  F_law_bent : Fun K "_law_bent" "_law_bent" s_law_bent f_law_bent fd_law_bent
  m_law_bent : mg "_law_bent" = some (.ref f_law_bent)
  b_law_bent : Binds K fd_law_bent ["_law_bag_here", "_law_begin", "_law_pairs_here"] []
  f_law_made : Addr
  fd_law_made : FuncData
  F_law_made : Fun K "_law_made" "_law_made" s_law_made f_law_made fd_law_made
  m_law_made : mg "_law_made" = some (.ref f_law_made)
  b_law_made : Binds K fd_law_made ["_law_way", "_law_begin", "_law_pairs_here"] []
  f_law_right : Addr
  fd_law_right : FuncData
  F_law_right : Fun K "_law_right" "_law_right" s_law_right f_law_right fd_law_right
  m_law_right : mg "_law_right" = some (.ref f_law_right)
  b_law_right : Binds K fd_law_right ["_law_script", "_law_bag_here"] []
  f_law : Addr
  fd_law : FuncData
  F_law : Fun K "law" "law" s_law f_law fd_law
  m_law : mg "law" = some (.ref f_law)
  b_law : Binds K fd_law ["_law_script"] []
  f_Effect___init : Addr
  fd_Effect___init : FuncData
  F_Effect___init : Fun K "__init__" "Effect.__init__" s_Effect___init f_Effect___init fd_Effect___init
  b_Effect___init : Binds K fd_Effect___init ["self", "first", "exits"] []
  M_Effect : Mk K C_Effect f_Effect___init
  f_Effect_first : Addr
  fd_Effect_first : FuncData
  F_Effect_first : Fun K "first" "Effect.first" s_Effect_first f_Effect_first fd_Effect_first
  b_Effect_first : Binds K fd_Effect_first ["self"] []
  q_Effect_first : Addr
  p_Effect_first : PropOf K C_Effect "first" q_Effect_first f_Effect_first
  f_Effect_exits : Addr
  fd_Effect_exits : FuncData
  F_Effect_exits : Fun K "exits" "Effect.exits" s_Effect_exits f_Effect_exits fd_Effect_exits
  b_Effect_exits : Binds K fd_Effect_exits ["self"] []
  q_Effect_exits : Addr
  p_Effect_exits : PropOf K C_Effect "exits" q_Effect_exits f_Effect_exits
  f_Effect___len : Addr
  fd_Effect___len : FuncData
  F_Effect___len : Fun K "__len__" "Effect.__len__" s_Effect___len f_Effect___len fd_Effect___len
  b_Effect___len : Binds K fd_Effect___len ["self"] []
  h_Effect___len : PySem.W.findIn K (.ref C_Effect) "__len__" = some (some (.ref f_Effect___len))
  i_Effect___len : PySem.W.isFn K (.ref f_Effect___len) = true
  k_Effect___init_1_2_1 : KBinds K fd_Effect___init ["self", "first", "exits"] ["exits", "first"] (kg .none 1 2 [0, 2, 1]) (kg .non 1 2 [0, 2, 1])
  t_MOST_PAGE : Tok
  c_MOST_PAGE : mg "MOST_PAGE" = some (.int 39 t_MOST_PAGE)
  n_all : mg "all" = none
  n_any : mg "any" = none
  n_bool : mg "bool" = none
  n_dict : mg "dict" = none
  n_enumerate : mg "enumerate" = none
  n_int : mg "int" = none
  n_isinstance : mg "isinstance" = none
  n_len : mg "len" = none
  n_list : mg "list" = none
  n_max : mg "max" = none
  n_min : mg "min" = none
  n_range : mg "range" = none
  n_repr : mg "repr" = none
  n_set : mg "set" = none
  n_sorted : mg "sorted" = none
  n_str : mg "str" = none
  n_tuple : mg "tuple" = none
  n_zip : mg "zip" = none
local macro_rules | `(tactic| walk_at "sx") => `(tactic| try simp only [x_callS, x_sortSetB, x_makeS, x_makeKS, x_seq, x_next, x_brk, x_cnt, x_nev, x_ret, x_retN, x_drop, x_ifS, x_asg, x_gn, x_gsub, x_par, x_par3, x_aug, x_for, x_lc, x_rng1, x_rng2, x_rng3, x_ilist, x_itup, x_ienum, x_izip, x_izipA, x_istr, x_var, x_c, x_op, x_un, x_test, x_b, x_chain, x_and, x_or, x_not, x_andV, x_orV, x_notV, x_ife, x_nil, x_cons, x_lst, x_tup, x_cb, x_call, x_callK, x_bm, x_bm0, x_tru, x_sl, x_nopart, x_part, x_revL, x_I0, x_I, x_U, x_ip, x_ipC, x_eqI, x_neI, x_eqB, x_neB, x_eqS, x_neS, x_isB, x_isNB, x_lrg, x_gall, x_lenSet, x_sortSet, x_rg1, x_rg2, x_dnewK, x_dnewT, x_dget, x_dget1, x_dget2, x_din, x_dnotin, x_dput, x_ikeys, x_fld, x_sfld, x_prop, x_meth, x_make, x_dc, x_callO, x_callOK,
  L2.start, List.map_cons, List.map_nil, List.length_cons, List.length_nil, Nat.reduceAdd, Nat.reduceSub, Nat.sub_self, Nat.zero_add, List.replicate, List.replicate_succ, List.replicate_zero, List.append_nil, List.cons_append, List.nil_append, List.set_cons_zero, List.set_cons_succ, List.getElem?_cons_zero, List.getElem?_cons_succ, Option.some.injEq, V.int.injEq, V.bl.injEq, V.ref.injEq, V.str.injEq, List.cons.injEq, and_true, true_and, exists_eq_left', exists_eq_left, exists_and_left, exists_eq, if_true, if_false, ite_true, ite_false, Bool.true_eq_false, Bool.false_eq_true, reduceIte, reduceCtorEq, Bool.not_true, Bool.not_false, decide_true, decide_false, decide_eq_true_eq, Bool.and_true, Bool.true_and, Bool.and_self, Bool.and_false, Bool.false_and, Bool.or_self, Bool.or_false, Bool.false_or, Bool.or_true, Bool.true_or, eq_self])
section
variable {P : Program} {w : World} {K : PySem.W.Frag} {mg : Str → Option Value} {base : Heap}
/-- a value with its type: a number, or what is none -/
inductive Kd (K : PySem.W.Frag) (H : Hp) : V → Prop
  | int (i : Int) : Kd K H (.int i)
  | bl (b : Bool) : Kd K H (.bl b)
  | odd {v : V} {t : Value} (h : TyX K H v t) (n : PySem.W.kitOne K t (.type "int") = some false) : Kd K H v
def inR (lo hi : Int) : V → Bool
  | .int i => decide (lo ≤ i) && decide (i ≤ hi)
  | _ => false
def spIsInt (K : PySem.W.Frag) : Sp := fun vs H Q _ => ∃ (v : V) (lo hi : Int), vs = [v, .int lo, .int hi] ∧ Kd K H v ∧ Q (.bl (inR lo hi v)) H
theorem ok_is_integer (T : Txt K mg) : FnOk P w K mg base CX0 1 T.f_is_integer T.fd_is_integer ["value", "least", "most"] (spIsInt K) := by
  refine T.F_is_integer.ok sc_is_integer (fun vs H Q E h => ?_) (fun cdv A outer s H vs Q E hr h => ?_)
  · obtain ⟨v, lo, hi, rfl, _⟩ := h
    rfl
  · obtain ⟨v, lo, hi, rfl, kd, k⟩ := h
    apply Exists.intro
    apply And.intro
    · apply pss_one
      exact (ps_ret (pe_and (pe_callB (k_isi (K := K) rfl) (by rfl) T.n_isinstance (by decide +kernel) (pa_cons (pv 0) (pa_cons (pe_bltn (v := .ty "int") (by rfl) T.n_int (by decide +kernel) rfl) pa_nil))) (pe_and (pe_not (pe_callB (k_isi (K := K) rfl) (by rfl) T.n_isinstance (by decide +kernel) (pa_cons (pv 0) (pa_cons (pe_bltn (v := .ty "bool") (by rfl) T.n_bool (by decide +kernel) rfl) pa_nil)))) (pe_one (pe_chain op_le op_le (pv 1) (pv 0) (pv 2))))))
    walk_at "sx"
    cases kd with
    | int i =>
      refine isi_int (b := true) (by decide +kernel) ?_
      walk_at "sx"
      refine isi_int (b := false) (by decide +kernel) ?_
      have k' : Q (.bl (decide (lo ≤ i) && decide (i ≤ hi))) H := k
      walk_at "sx"
      by_cases h1 : lo ≤ i
      · simpa [h1] using k'
      · simpa [h1] using k'
    | bl b =>
      refine ⟨.bl b, .ty "int", .type "bool", .type "int", true, rfl, .ty "int", .base (.bl b), kit_ty (by decide +kernel), ?_⟩
      walk_at "sx"
      refine ⟨.bl b, .ty "bool", .type "bool", .type "bool", true, rfl, .ty "bool", .base (.bl b), kit_ty (by decide +kernel), ?_⟩
      walk_at "sx"
      exact k
    | odd ty n =>
      refine ⟨v, .ty "int", _, .type "int", false, rfl, .ty "int", ty, n, ?_⟩
      have e : inR lo hi v = false := by
        cases v with
        | int i =>
          cases ty with
          | base h => cases h; exact absurd n (by rw [kit_ty (r := true) (by decide +kernel)]; simp)
        | _ => rfl
      rw [e] at k
      walk_at "sx"
      exact k
def spIsPage (K : PySem.W.Frag) : Sp := fun vs H Q _ => ∃ v, vs = [v] ∧ Kd K H v ∧ Q (.bl (inR 0 39 v)) H
theorem ok_is_page (T : Txt K mg) : FnOk P w K mg base CX0 2 T.f_is_page T.fd_is_page ["value"] (spIsPage K) := by
  refine T.F_is_page.ok sc_is_page (fun vs H Q E h => ?_) (fun cdv A outer s H vs Q E hr h => ?_)
  · obtain ⟨i, rfl, _⟩ := h
    rfl
  · obtain ⟨i, rfl, kd, k⟩ := h
    apply Exists.intro
    apply And.intro
    · apply pss_one
      exact (ps_ret (pe_call (ok_is_integer T) (hr.mono (by decide)) (by rfl) T.m_is_integer T.F_is_integer.kp T.b_is_integer .nil pass0 (pa_cons (pv 0) (pa_cons pe_int (pa_cons (pe_glob (v := .int 39) rfl T.c_MOST_PAGE ⟨_, rfl⟩) pa_nil)))))
    walk_at "sx"
    exact ⟨i, 0, 39, rfl, kd, k⟩
theorem Kd.of {K : PySem.W.Frag} {H : Hp} {v : V} {t : Value} (h : TyX K H v t) (n : PySem.W.kitOne K t (.type "int") = some false) : Kd K H v := .odd h n
theorem kd_non {K : PySem.W.Frag} {H : Hp} : Kd K H .non := .odd (.base .non) (kit_ty (by decide +kernel))
theorem kd_str {K : PySem.W.Frag} {H : Hp} (x : Str) : Kd K H (.str x) := .odd (.base (.str x)) (kit_ty (by decide +kernel))
theorem kd_lst {K : PySem.W.Frag} {H : Hp} {a : Addr} {xs : List V} (e : H a = some (.lst xs)) : Kd K H (.ref a) := .odd (.base (.lst e)) (kit_ty (by decide +kernel))
theorem kd_tup {K : PySem.W.Frag} {H : Hp} {a : Addr} {xs : List V} (e : H a = some (.tup xs)) : Kd K H (.ref a) := .odd (.base (.tup e)) (kit_ty (by decide +kernel))
theorem kd_dic {K : PySem.W.Frag} {H : Hp} {a : Addr} {xs : List (Key × V)} (e : H a = some (.dK xs)) : Kd K H (.ref a) := .odd (.base (.dK e)) (kit_ty (by decide +kernel))
end
/-! ### sites.py on any value -/
section
variable {P : Program} {w : World} {K : PySem.W.Frag} {mg : Str → Option Value} {base : Heap}
theorem inR_inD {H : Hp} {v : V} {d : PyData} {lo hi : Int} (h : De K H v d) : inR lo hi v = inD lo hi d := by
  cases h <;> rfl
theorem de_nums {H : Hp} {m : Int} : ∀ {xs : List V} {ds : List PyData}, DeAll K H xs ds → ds.all (inD 0 m) = true → xs = (ds.map numD).map V.int ∧ ∀ n ∈ ds.map numD, 0 ≤ n ∧ n ≤ m
  | _, [], .nil, _ => ⟨rfl, fun n h => by cases h⟩
  | x :: xs, d :: ds, .cons h1 h2, c => by
    rw [List.all_cons, Bool.and_eq_true] at c
    obtain ⟨e, hn⟩ := de_nums h2 c.2
    cases h1 with
    | int i =>
      have c1 := c.1
      simp [inD] at c1
      refine ⟨by rw [e]; rfl, fun n hn2 => ?_⟩
      rw [List.map_cons] at hn2
      rcases List.mem_cons.mp hn2 with rfl | q
      · exact c1
      · exact hn n q
    | _ => exact absurd c.1 (by simp [inD])
theorem de_kd {H : Hp} {v : V} {d : PyData} (h : De K H v d) : Kd K H v := by
  cases h with
  | non => exact kd_non
  | bl b => exact .bl b
  | int i => exact .int i
  | str x => exact kd_str x
  | lst h _ => exact .odd (tyx_l h) (kit_ty (by decide +kernel))
  | tup h _ => exact .odd (tyx_t h) (kit_ty (by decide +kernel))
  | dic h => exact kd_dic h
theorem pw_sorted {ns ms : List Int} (pw : ms.Pairwise (· < ·)) (mem : ∀ k : Int, k ∈ ms ↔ k ∈ ns) : (ns = ms) ↔ ns.Pairwise (· < ·) := by
  constructor
  · rintro rfl; exact pw
  · intro h; exact asc_same h pw fun k => (mem k).symm
theorem dbl {ds : List PyData} {f : PyData → Bool} : (List.range ds.length).map (fun i => f (ds.getD i .none)) = ds.map f := by
  apply List.ext_getElem
  · simp
  · intro i h1 h2
    simp at h1
    simp [List.getD_eq_getElem?_getD, h1]
theorem kept_ds {ds : List PyData} {n : Nat} (hn : n = ds.length) (f : PyData → Bool) : kept n (fun _ => true) (fun i => V.bl (f (ds.getD i .none))) = (ds.map f).map V.bl := by
  subst hn
  rw [kept_all, ← dbl, List.map_map]
  rfl
def spIsRow (K : PySem.W.Frag) : Sp := fun vs H Q _ => ∃ (v : V) (d : PyData) (i m : Nat), vs = [v, .int i, .int m] ∧ De K H v d ∧ m ≤ 12 ∧ (∀ ds, d = .list ds → ds.length ≤ 4000) ∧ ∀ H', Ex H H' → Q (.bl (isRowD i m d)) H'
def spIsSite (K : PySem.W.Frag) : Sp := fun vs H Q _ => ∃ (v : V) (d : PyData), vs = [v] ∧ De K H v d ∧ RowsL d ∧ ∀ H', Ex H H' → Q (.bl (isSiteD d)) H'
end
section
variable {P : Program} {w : World} {K : PySem.W.Frag} {mg : Str → Option Value} {base : Heap}
theorem ints_at {ns : List Int} {i : Nat} {v : V} (h : (ns.map V.int)[i]? = some v) : ∃ n, ns[i]? = some n ∧ v = .int n := by
  rw [List.getElem?_map] at h
  cases e : ns[i]? with
  | none => rw [e] at h; cases h
  | some n => rw [e] at h; cases h; exact ⟨n, rfl, rfl⟩
theorem at_ints {ns : List Int} {i : Nat} {n : Int} (h : ns[i]? = some n) : (ns.map V.int)[i]? = some (.int n) := by rw [List.getElem?_map, h]; rfl
theorem kept_pairs {P : Int × Int → Bool} {g : Int × Int → Int} : ∀ (qs : List (Int × Int)), kept qs.length (fun i => P (qs.getD i (0, 0))) (fun i => V.int (g (qs.getD i (0, 0)))) = ((qs.filter P).map g).map V.int := fun qs => by
  have h : ∀ n, n ≤ qs.length → kept n (fun i => P (qs.getD i (0, 0))) (fun i => V.int (g (qs.getD i (0, 0)))) = (((qs.take n).filter P).map g).map V.int := fun n => by
    induction n with
    | zero => intro _; rfl
    | succ n ih =>
      intro hn
      have hq : qs[n]? = some (qs.getD n (0, 0)) := by rw [List.getD_eq_getElem?_getD, List.getElem?_eq_getElem (by omega)]; rfl
      rw [List.take_add_one, hq]
      cases c : P (qs.getD n (0, 0)) with
      | true =>
        rw [kept_yes (k := fun i => P (qs.getD i (0, 0))) c, ih (by omega), Option.toList_some, List.filter_append, List.filter_cons_of_pos c, List.filter_nil, List.map_append, List.map_append]
        rfl
      | false =>
        rw [kept_no (k := fun i => P (qs.getD i (0, 0))) c, ih (by omega), Option.toList_some, List.filter_append, List.filter_cons_of_neg (by rw [c]; exact Bool.false_ne_true), List.filter_nil, List.append_nil]
  rw [h _ (Nat.le_refl _), List.take_of_length_le (Nat.le_refl _)]
def firstV : List Int → V
  | [] => .non
  | a :: _ => .int a
def EffAt (C : Addr) (H : Hp) (x : Addr) (v : V) (qs : List (Int × Int)) : Prop := ∃ dx t d ts, H x = some (.ins C dx [("begin_page", v), ("pairs", .ref t), ("exit_of", .ref d)]) ∧ H t = some (.tup ((ts : List Addr).map V.ref)) ∧ ts.length = qs.length ∧ (∀ i u, ts[i]? = some u → PairAt H u (qs.getD i (0, 0))) ∧ H d = some (.dK (qs.map itK))
theorem EffAt.ex {C : Addr} {H H' : Hp} {x : Addr} {v : V} {qs : List (Int × Int)} (h : EffAt C H x v qs) (e : Ex H H') : EffAt C H' x v qs := by
  obtain ⟨dx, t, d, ts, h1, h2, h3, h4, h5⟩ := h
  exact ⟨dx, t, d, ts, e _ _ h1, e _ _ h2, h3, fun i u hi => e _ _ (h4 i u hi), e _ _ h5⟩
def spLead : Sp := fun vs H Q _ => ∃ (d : Addr) (p r : Int) (qs : List (Int × Int)) (f : Int → Int) (S : Int → Prop), vs = [.ref d, .int p, .int r] ∧ H d = some (.dK (qs.map itK)) ∧ qs.length ≤ 1000 ∧ S p ∧ (∀ x, S x → getI qs x = some (f x) ∧ S (f x)) ∧ ∀ H', Ex H H' → Q (.bl (lead f r qs.length p)) H'
def JLd (H : Hp) (d : Addr) (p r : Int) (n : Nat) (f : Int → Int) (S : Int → Prop) (i : Nat) (σ' : L2.St) (H' : Hp) : Prop := ∃ p' l3, σ' = [some (.ref d), some (.int p'), some (.int r), l3] ∧ H' = H ∧ S p' ∧ lead f r n p = lead f r (n - i) p'
theorem ok_leads_to_root (T : Txt K mg) : FnOk P w K mg base CX0 3 T.f_leads_to_root T.fd_leads_to_root ["exit_of", "page", "root"] spLead := by
  refine T.F_leads_to_root.ok sc_leads_to_root (fun vs H Q E h => ?_) (fun cdv A outer s H vs Q E hr h => ?_)
  · obtain ⟨d, p, r, qs, f, S, rfl, _⟩ := h
    rfl
  · obtain ⟨d, p, r, qs, f, S, rfl, hd, hl, hp, hS, k⟩ := h
    apply Exists.intro
    apply And.intro
    · apply pss_cons
      · apply ps_for PassesOwn.never rfl
        · exact (pi_range1 (by rfl) T.n_range (pa_cons (pe_callB call_lenD (by rfl) T.n_len PySem.boot_len (pa_cons (pv 0) pa_nil)) pa_nil))
        · exact (pg_name (i := 3) sc_leads_to_root.nd rfl (.inl rfl))
        · apply pss_cons
          · apply ps_if
            · exact (pt_cmpR op_eq (pv 1) (pv 2) (by rfl))
            · apply pss_one
              exact (ps_ret pe_bl)
            · exact pss_nil
          apply pss_one
          exact (ps_set (i := 1) sc_leads_to_root.nd rfl (.inl rfl) (pe_dget (hu_of hr) (pv 0) (pv 1) (fun _ _ => rfl)))
      apply pss_one
      exact (ps_ret pe_bl)
    walk_at "sx"
    refine ⟨_, hd, ?_⟩
    rw [List.length_map]
    refine ⟨by omega, by omega, ?_⟩
    rw [Int.toNat_natCast]
    refine lg_rng (JLd H d p r qs.length f S) ⟨p, none, rfl, rfl, hp, rfl⟩ (fun i σ' H' hi hP => ?_) (fun σ' H' hP => ?_)
    · obtain ⟨p', l3, rfl, rfl, hp', hf⟩ := hP
      walk_at "sx"
      obtain ⟨m, hm⟩ : ∃ m, qs.length - i = m + 1 := ⟨qs.length - i - 1, by omega⟩
      rw [hm] at hf
      have hf2 : lead f r qs.length p = (if p' = r then true else lead f r m (f p')) := hf
      by_cases c : p' = r
      · rw [if_pos c] at hf2 ⊢
        have := k _ (Ex.refl _)
        rw [hf2] at this
        exact this
      · rw [if_neg c] at hf2 ⊢
        obtain ⟨g, s⟩ := hS p' hp'
        refine ⟨_, .inl ⟨_, Sum.inl p', .inl hd, rfl, by rw [getI_val, g]; rfl⟩, ?_⟩
        refine ⟨_, _, rfl, rfl, s, ?_⟩
        rw [hf2, show qs.length - (i + 1) = m by omega]
    · obtain ⟨p', l3, rfl, rfl, hp', hf⟩ := hP
      walk_at "sx"
      have := k _ (Ex.refl _)
      rw [hf, Nat.sub_self] at this
      exact this
theorem pr_ev {H : Hp} {t : Addr} {q : Int × Int} (h : PairAt H t q) : H t = some (.tup [V.int q.1, V.int q.2]) := h
theorem flds_all (v : V) (t d : Addr) : putF "exit_of" (V.ref d) (putF "pairs" (V.ref t) (putF "begin_page" v [])) = ([("begin_page", v), ("pairs", V.ref t), ("exit_of", V.ref d)] : List (Str × V)) := by
  have k1 : ¬ (("begin_page" : Str) = "pairs") := by decide +kernel
  have k2 : ¬ (("begin_page" : Str) = "exit_of") := by decide +kernel
  have k3 : ¬ (("pairs" : Str) = "exit_of") := by decide +kernel
  simp [putF, k1, k2, k3]
theorem len_flds1 (v : V) : (putF "begin_page" v ([] : List (Str × V))).length = 1 := rfl
theorem len_flds2 (v u : V) : (putF "pairs" u (putF "begin_page" v ([] : List (Str × V)))).length = 2 := by
  have k1 : ¬ (("begin_page" : Str) = "pairs") := by decide +kernel
  simp [putF, k1]
theorem lk_pairs (v : V) (t d : Addr) : ([("begin_page", v), ("pairs", V.ref t), ("exit_of", V.ref d)] : List (Str × V)).lookup ("pairs" : Str) = some (.ref t) := by
  have k1 : (("pairs" : Str) == "begin_page") = false := by decide +kernel
  simp [List.lookup, k1]
theorem lk_exit (v : V) (t d : Addr) : ([("begin_page", v), ("pairs", V.ref t), ("exit_of", V.ref d)] : List (Str × V)).lookup ("exit_of" : Str) = some (.ref d) := by
  have k1 : (("exit_of" : Str) == "begin_page") = false := by decide +kernel
  have k2 : (("exit_of" : Str) == "pairs") = false := by decide +kernel
  simp [List.lookup, k1, k2]
theorem lk_begin (v : V) (t d : Addr) : ([("begin_page", v), ("pairs", V.ref t), ("exit_of", V.ref d)] : List (Str × V)).lookup ("begin_page" : Str) = some v := by
  simp [List.lookup]
def spFirst (C : Addr) : Sp := fun vs H Q _ => ∃ (x : Addr) (v : V) (qs : List (Int × Int)), vs = [.ref x] ∧ EffAt C H x v qs ∧ Q v H
theorem ok_Effect_first (T : Txt K mg) : FnOk P w K mg base CX0 1 T.f_Effect_first T.fd_Effect_first ["self"] (spFirst T.C_Effect) := by
  refine T.F_Effect_first.ok sc_Effect_first (fun vs H Q E h => ?_) (fun cdv A outer s H vs Q E hr h => ?_)
  · obtain ⟨x, v, qs, rfl, _⟩ := h
    rfl
  · obtain ⟨x, v, qs, rfl, hx, k⟩ := h
    apply Exists.intro
    apply And.intro
    · apply pss_one
      exact (ps_ret (k_fld (K := K) rfl (pv 0) rfl))
    obtain ⟨dx, t, d, ts, h1, h2, h3, h4, h5⟩ := hx
    walk_at "sx"
    exact ⟨_, _, _, h1, T.cl_Effect, T.na_Effect_begin_page, _, lk_begin _ _ _, k⟩
def spExits (C : Addr) : Sp := fun vs H Q _ => ∃ (x : Addr) (v : V) (qs : List (Int × Int)), vs = [.ref x] ∧ EffAt C H x v qs ∧ ∀ l ts H', H l = none → Ex H H' → H' l = some (.lst ((ts : List Addr).map V.ref)) → ts.length = qs.length → (∀ i u, ts[i]? = some u → PairAt H' u (qs.getD i (0, 0))) → Q (.ref l) H'
theorem ok_Effect_exits (T : Txt K mg) : FnOk P w K mg base CX0 1 T.f_Effect_exits T.fd_Effect_exits ["self"] (spExits T.C_Effect) := by
  refine T.F_Effect_exits.ok sc_Effect_exits (fun vs H Q E h => ?_) (fun cdv A outer s H vs Q E hr h => ?_)
  · obtain ⟨x, v, qs, rfl, _⟩ := h
    rfl
  · obtain ⟨x, v, qs, rfl, hx, k⟩ := h
    apply Exists.intro
    apply And.intro
    · apply pss_one
      exact (ps_ret (pe_callTy (k_listOf (K := K) rfl) (by rfl) T.n_list (by decide +kernel) (pa_cons (k_fld (K := K) rfl (pv 0) rfl) pa_nil)))
    obtain ⟨dx, t, d, ts, h1, h2, h3, h4, h5⟩ := hx
    walk_at "sx"
    refine ⟨_, _, _, h1, T.cl_Effect, T.na_Effect_pairs, _, lk_pairs _ _ _, ?_⟩
    refine ⟨t, _, rfl, .inr (.inl (.inl h2)), fun l nl => ?_⟩
    have el := Ex.new nl (o := .lst (ts.map V.ref))
    exact k l ts _ nl el upd_same h3 fun i u hi => el _ _ (h4 i u hi)
def spLen (C : Addr) : Sp := fun vs H Q _ => ∃ (x : Addr) (v : V) (qs : List (Int × Int)), vs = [.ref x] ∧ EffAt C H x v qs ∧ Q (.int (qs.length : Nat)) H
theorem ok_Effect___len (T : Txt K mg) : FnOk P w K mg base CX0 1 T.f_Effect___len T.fd_Effect___len ["self"] (spLen T.C_Effect) := by
  refine T.F_Effect___len.ok sc_Effect___len (fun vs H Q E h => ?_) (fun cdv A outer s H vs Q E hr h => ?_)
  · obtain ⟨x, v, qs, rfl, _⟩ := h
    rfl
  · obtain ⟨x, v, qs, rfl, hx, k⟩ := h
    apply Exists.intro
    apply And.intro
    · apply pss_one
      exact (ps_ret (pe_callB (k_len (K := K) rfl) (by rfl) T.n_len PySem.boot_len (pa_cons (k_fld (K := K) rfl (pv 0) rfl) pa_nil)))
    obtain ⟨dx, t, d, ts, h1, h2, h3, h4, h5⟩ := hx
    walk_at "sx"
    refine ⟨_, _, _, h1, T.cl_Effect, T.na_Effect_pairs, _, lk_pairs _ _ _, ?_⟩
    refine lenT (.inl (.inl h2)) ?_
    rw [List.length_map, h3]
    exact k
/-- a value that is judged: without dicts, or the empty dict -/
def ArgX (H : Hp) (v : V) (d : PyData) : Prop := (Dx H v d ∧ SeqAt.shaped d = true) ∨ ∃ a, v = .ref a ∧ H a = some (.dK []) ∧ d = .dict []
theorem ArgX.ex {H H' : Hp} {v : V} {d : PyData} (h : ArgX H v d) (e : Ex H H') : ArgX H' v d := by
  rcases h with ⟨a, b⟩ | ⟨a, r, b, c⟩
  · exact .inl ⟨Dx.ex e _ _ a, b⟩
  · exact .inr ⟨a, r, e _ _ b, c⟩
theorem ArgX.de {H : Hp} {v : V} {d : PyData} (h : ArgX H v d) : De K H v d := by
  rcases h with ⟨a, b⟩ | ⟨a, rfl, b, rfl⟩
  · exact Dx.de _ _ a
  · exact .dic b
def spIsPairX : Sp := fun vs H Q _ => ∃ (v : V) (d : PyData), vs = [v] ∧ Dx H v d ∧ Q (.bl (pairD d)) H
theorem ok_is_pair (T : Txt K mg) : FnOk P w K mg base CX0 3 T.f_is_pair T.fd_is_pair ["value"] spIsPairX := by
  refine T.F_is_pair.ok sc_is_pair (fun vs H Q E h => ?_) (fun cdv A outer s H vs Q E hr h => ?_)
  · obtain ⟨v, d, rfl, _⟩ := h
    rfl
  · obtain ⟨v, d, rfl, hd, k⟩ := h
    apply Exists.intro
    apply And.intro
    · apply pss_one
      exact (ps_ret (pe_and (pe_callB (k_isi (K := K) rfl) (by rfl) T.n_isinstance (by decide +kernel) (pa_cons (pv 0) (pa_cons (pe_bltn (v := .ty "tuple") (by rfl) T.n_tuple (by decide +kernel) rfl) pa_nil))) (pe_and (pe_cmpR op_eq (pe_callB (k_len (K := K) rfl) (by rfl) T.n_len PySem.boot_len (pa_cons (pv 0) pa_nil)) pe_int (by rfl)) (pe_and (pe_call (ok_is_page T) (hr.mono (by decide)) (by rfl) T.m_is_page T.F_is_page.kp T.b_is_page .nil pass0 (pa_cons (pe_ix (k_ix_tup (K := K) rfl) (pv 0) pe_int (fun _ _ => rfl)) pa_nil)) (pe_one (pe_call (ok_is_page T) (hr.mono (by decide)) (by rfl) T.m_is_page T.F_is_page.kp T.b_is_page .nil pass0 (pa_cons (pe_ix (k_ix_tup (K := K) rfl) (pv 0) pe_int (fun _ _ => rfl)) pa_nil)))))))
    walk_at "sx"
    cases hd with
    | non => exact isi_x (b := false) (.base .non) (by decide +kernel) (by walk_at "sx"; exact k)
    | bl b => exact isi_x (b := false) (.base (.bl b)) (by decide +kernel) (by walk_at "sx"; exact k)
    | int i => exact isi_x (b := false) (.base (.int i)) (by decide +kernel) (by walk_at "sx"; exact k)
    | str x => exact isi_x (b := false) (.base (.str x)) (by decide +kernel) (by walk_at "sx"; exact k)
    | lst h1 h2 => exact isi_x (b := false) (tyx_l (.inl (.inl h1))) (by decide +kernel) (by walk_at "sx"; exact k)
    | @tup t xs ds h1 h2 =>
      refine isi_x (b := true) (tyx_t (.inl (.inl h1))) (by decide +kernel) ?_
      walk_at "sx"
      refine lenT (.inl (.inl h1)) ?_
      walk_at "sx"
      have hl := h2.len
      match ds, xs, h2, hl, k with
      | [], [], _, _, k => walk_at "sx"; exact k
      | [_], [_], _, _, k => walk_at "sx"; exact k
      | _ :: _ :: _ :: ds, _ :: _ :: _ :: xs, _, _, k =>
        rw [if_neg (by simp only [List.length_cons]; omega)]
        exact k
      | [d0, d1], [x0, x1], .cons g0 (.cons g1 .nil), _, k =>
        have k' : Q (.bl (inD 0 39 d0 && inD 0 39 d1)) H := k
        rw [if_pos (by rfl)]
        refine ⟨t, _, _, _, rfl, rfl, .inl (.inl h1), atI_n (j := 0) rfl rfl, ?_⟩
        refine ⟨x0, rfl, de_kd (Dx.de _ _ g0), ?_⟩
        rw [inR_inD (Dx.de (K := K) _ _ g0)]
        cases c0 : inD 0 39 d0 with
        | false =>
          rw [c0] at k'
          walk_at "sx"
          exact k'
        | true =>
          rw [c0] at k'
          walk_at "sx"
          refine ⟨t, _, _, _, rfl, rfl, .inl (.inl h1), atI_n (j := 1) rfl rfl, ?_⟩
          refine ⟨x1, rfl, de_kd (Dx.de _ _ g1), ?_⟩
          rw [inR_inD (Dx.de (K := K) _ _ g1)]
          exact k'
end
end LW

set_option Elab.async false
set_option linter.all false
set_option maxRecDepth 100000
set_option maxHeartbeats 4000000
namespace LW
open PySem PySem.Spec PyProof.Rows L2 BC Evl TR EF L2.DX
local macro_rules | `(tactic| walk_at "sx") => `(tactic| try simp only [x_callS, x_sortSetB, x_makeS, x_makeKS, x_seq, x_next, x_brk, x_cnt, x_nev, x_ret, x_retN, x_drop, x_ifS, x_asg, x_gn, x_gsub, x_par, x_par3, x_aug, x_for, x_lc, x_rng1, x_rng2, x_rng3, x_ilist, x_itup, x_ienum, x_izip, x_izipA, x_istr, x_var, x_c, x_op, x_un, x_test, x_b, x_chain, x_and, x_or, x_not, x_andV, x_orV, x_notV, x_ife, x_nil, x_cons, x_lst, x_tup, x_cb, x_call, x_callK, x_bm, x_bm0, x_tru, x_sl, x_nopart, x_part, x_revL, x_I0, x_I, x_U, x_ip, x_ipC, x_eqI, x_neI, x_eqB, x_neB, x_eqS, x_neS, x_isB, x_isNB, x_lrg, x_gall, x_lenSet, x_sortSet, x_rg1, x_rg2, x_dnewK, x_dnewT, x_dget, x_dget1, x_dget2, x_din, x_dnotin, x_dput, x_ikeys, x_fld, x_sfld, x_prop, x_meth, x_make, x_dc, x_callO, x_callOK,
  L2.start, List.map_cons, List.map_nil, List.length_cons, List.length_nil, Nat.reduceAdd, Nat.reduceSub, Nat.sub_self, Nat.zero_add, List.replicate, List.replicate_succ, List.replicate_zero, List.append_nil, List.cons_append, List.nil_append, List.set_cons_zero, List.set_cons_succ, List.getElem?_cons_zero, List.getElem?_cons_succ, Option.some.injEq, V.int.injEq, V.bl.injEq, V.ref.injEq, V.str.injEq, List.cons.injEq, and_true, true_and, exists_eq_left', exists_eq_left, exists_and_left, exists_eq, if_true, if_false, ite_true, ite_false, Bool.true_eq_false, Bool.false_eq_true, reduceIte, reduceCtorEq, Bool.not_true, Bool.not_false, decide_true, decide_false, decide_eq_true_eq, Bool.and_true, Bool.true_and, Bool.and_self, Bool.and_false, Bool.false_and, Bool.or_self, Bool.or_false, Bool.false_or, Bool.or_true, Bool.true_or, eq_self])
section
variable {P : Program} {w : World} {K : PySem.W.Frag} {mg : Str → Option Value} {base : Heap}
theorem asc_any (ns : List Int) : ((List.range (ns.length - 1)).map fun i => decide (ns.getD i 0 ≥ ns.getD (i + 1) 0)).any id = !decide (ns.Pairwise (· < ·)) := by
  have at' : ∀ i (h : i < ns.length), ns.getD i 0 = ns[i] := fun i h => by rw [List.getD_eq_getElem?_getD, List.getElem?_eq_getElem h]; rfl
  have e : (((List.range (ns.length - 1)).map fun i => decide (ns.getD i 0 ≥ ns.getD (i + 1) 0)).any id = true) ↔ ∃ i, i < ns.length - 1 ∧ ns.getD i 0 ≥ ns.getD (i + 1) 0 := by
    rw [List.any_map, List.any_eq_true]
    constructor
    · rintro ⟨i, h1, h2⟩
      exact ⟨i, List.mem_range.mp h1, of_decide_eq_true h2⟩
    · rintro ⟨i, h1, h2⟩
      exact ⟨i, List.mem_range.mpr h1, decide_eq_true h2⟩
  by_cases pw : ns.Pairwise (· < ·)
  · rw [decide_eq_true pw]
    cases c : ((List.range (ns.length - 1)).map fun i => decide (ns.getD i 0 ≥ ns.getD (i + 1) 0)).any id with
    | false => rfl
    | true =>
      obtain ⟨i, h1, h2⟩ := e.mp c
      rw [at' i (by omega), at' (i + 1) (by omega)] at h2
      have := List.pairwise_iff_getElem.mp pw i (i + 1) (by omega) (by omega) (by omega)
      omega
  · rw [decide_eq_false pw]
    refine e.mpr ?_
    by_cases q : ∃ i, i < ns.length - 1 ∧ ns.getD i 0 ≥ ns.getD (i + 1) 0
    · exact q
    · exfalso
      refine pw (List.pairwise_iff_getElem.mpr fun i j hi hj hij => ?_)
      have step : ∀ i, i < ns.length - 1 → ns.getD i 0 < ns.getD (i + 1) 0 := fun i h => by
        by_cases c : ns.getD i 0 < ns.getD (i + 1) 0
        · exact c
        · exact absurd ⟨i, h, by omega⟩ q
      have up : ∀ m, i + 1 + m < ns.length → ns.getD i 0 < ns.getD (i + 1 + m) 0 := fun m => by
        induction m with
        | zero => intro h; exact step i (by omega)
        | succ m ih =>
          intro h
          have h1 := ih (by omega)
          have h2 := step (i + 1 + m) (by omega)
          rw [show i + 1 + (m + 1) = i + 1 + m + 1 by omega]
          omega
      have := up (j - i - 1) (by omega)
      rw [show i + 1 + (j - i - 1) = j by omega, at' i hi, at' j hj] at this
      exact this
theorem getI_in (qs : List (Int × Int)) (x : Int) : (valV (qs.map itK) (Sum.inl x)).isSome = decide (x ∈ namesOf qs) := by
  rw [getI_val, Option.isSome_map, ← getI_any]
  by_cases c : x ∈ namesOf qs
  · obtain ⟨q, hq, e⟩ := List.mem_map.mp c
    rw [decide_eq_true c, List.any_eq_true]
    exact ⟨q, hq, decide_eq_true e⟩
  · rw [decide_eq_false c, List.any_eq_false]
    intro q hq
    simp only [decide_eq_true_eq]
    exact fun e => c (List.mem_map.mpr ⟨q, hq, e⟩)
theorem kept_bl (n : Nat) (f : Nat → Bool) : kept n (fun _ => true) (fun i => V.bl (f i)) = ((List.range n).map f).map V.bl := by rw [kept_all, List.map_map]; rfl
theorem all_get {α : Type} (l : List α) (d : α) (f : α → Bool) : ((List.range l.length).map fun i => f (l.getD i d)).all id = l.all f := by
  rw [List.all_map]
  cases c : l.all f with
  | true =>
    rw [List.all_eq_true] at c ⊢
    intro i hi
    have hi := List.mem_range.mp hi
    show f (l.getD i d) = true
    rw [List.getD_eq_getElem?_getD, List.getElem?_eq_getElem hi]
    exact c _ (List.getElem_mem hi)
  | false =>
    rw [List.all_eq_false] at c ⊢
    obtain ⟨x, hx, hf⟩ := c
    obtain ⟨i, hi, e⟩ := List.getElem_of_mem hx
    refine ⟨i, List.mem_range.mpr hi, ?_⟩
    show ¬ f (l.getD i d) = true
    rw [List.getD_eq_getElem?_getD, List.getElem?_eq_getElem hi, e]
    exact hf
def LenX (d : PyData) : Prop := ∀ ds, d = .list ds → ds.length ≤ 900
def spAreX : Sp := fun vs H Q _ => ∃ (v : V) (d : PyData), vs = [v] ∧ ArgX H v d ∧ LenX d ∧ ∀ H', Ex H H' → Q (.bl (exitsD d)) H'
theorem ok_are_exits (T : Txt K mg) : FnOk P w K mg base CX0 4 T.f_are_exits T.fd_are_exits ["value"] spAreX := by
  refine T.F_are_exits.ok sc_are_exits (fun vs H Q E h => ?_) (fun cdv A outer s H vs Q E hr h => ?_)
  · obtain ⟨v, d, rfl, _⟩ := h
    rfl
  · obtain ⟨v, d, rfl, hd, hlen, k⟩ := h
    apply Exists.intro
    apply And.intro
    · apply pss_cons
      · apply ps_if
        · exact (PW.pt (pw_or (pt_not (pt_val (pe_callB (k_isi (K := K) rfl) (by rfl) T.n_isinstance (by decide +kernel) (pa_cons (pv 0) (pa_cons (pe_bltn (v := .ty "list") (by rfl) T.n_list (by decide +kernel) rfl) pa_nil))))) (pw_or (pt_cmpR (k_eqD (K := K) rfl hr.units) (pv 0) (pe_lst pa_nil) (by rfl)) (pw_or1 (pt_not (pt_val (pe_callB (k_all (K := K) rfl rfl) (by rfl) T.n_all (by decide +kernel) (pa_cons (pe_lc (own := [("pair", 6)]) rfl sc_are_exits.nd (k_pi_list (K := K) rfl (pv 0)) (blkOk_by (own := [("pair", 6)]) (N := ["value", "pages", "roots", "exit_of", "page", "later", "pair", "other"]) (sc := defScope s_are_exits) (by decide +kernel)) (fun _ _ _ _ _ => by exact (pg_name (i := 6) sc_are_exits.nd rfl (.inl rfl))) (fun _ _ _ _ _ => by exact pts_nil) (fun _ _ _ _ _ => by exact (pe_call (ok_is_pair T) (hr.mono (by decide)) (by rfl) T.m_is_pair T.F_is_pair.kp T.b_is_pair .nil pass0 (pa_cons (pv 6) pa_nil)))) pa_nil))))))))
        · apply pss_one
          exact (ps_ret pe_bl)
        · exact pss_nil
      apply pss_cons
      · exact (ps_setLc (i := 1) (own := [("page", 4), ("later", 5)]) rfl sc_are_exits.nd rfl rfl (sw_true rfl rfl rfl (by decide +kernel)) (k_pi_list (K := K) rfl (pv 0)) (blkOk_by (own := [("page", 4), ("later", 5)]) (N := ["value", "pages", "roots", "exit_of", "page", "later", "pair", "other"]) (sc := defScope s_are_exits) (by decide +kernel)) (fun _ _ _ _ _ => by exact (k_tup (K := K) (n := 2) rfl rfl (pgs_cons (pg_name (i := 4) sc_are_exits.nd rfl (.inl rfl)) (pgs_cons (pg_name (i := 5) sc_are_exits.nd rfl (.inl rfl)) pgs_nil)))) (fun _ _ _ _ _ => by exact pts_nil) (fun _ _ _ _ _ => by exact (pv 4)))
      apply pss_cons
      · exact (ps_set (i := 2) sc_are_exits.nd rfl (.inr rfl) (pe_lc (own := [("page", 4), ("later", 5)]) rfl sc_are_exits.nd (k_pi_list (K := K) rfl (pv 0)) (blkOk_by (own := [("page", 4), ("later", 5)]) (N := ["value", "pages", "roots", "exit_of", "page", "later", "pair", "other"]) (sc := defScope s_are_exits) (by decide +kernel)) (fun _ _ _ _ _ => by exact (k_tup (K := K) (n := 2) rfl rfl (pgs_cons (pg_name (i := 4) sc_are_exits.nd rfl (.inl rfl)) (pgs_cons (pg_name (i := 5) sc_are_exits.nd rfl (.inl rfl)) pgs_nil)))) (fun _ _ _ _ _ => by exact (pts_one (pt_cmpR op_eq (pv 4) (pv 5) (by rfl)))) (fun _ _ _ _ _ => by exact (pv 4))))
      apply pss_cons
      · apply ps_if
        · exact (PW.pt (pw_or (pt_cmpR op_ne (pe_callB (k_len (K := K) rfl) (by rfl) T.n_len PySem.boot_len (pa_cons (pv 2) pa_nil)) pe_int (by rfl)) (pw_or1 (pt_val (pe_callB (k_any (K := K) rfl rfl) (by rfl) T.n_any (by decide +kernel) (pa_cons (pe_lc (own := [("page", 4), ("other", 7)]) rfl sc_are_exits.nd (k_pi_zipA (K := K) rfl (by rfl) T.n_zip (pa_cons (pv 1) (pa_cons (pe_slice (k_sl_list (K := K) rfl) (pv 1) (po_some pe_int) po_none) pa_nil))) (blkOk_by (own := [("page", 4), ("other", 7)]) (N := ["value", "pages", "roots", "exit_of", "page", "later", "pair", "other"]) (sc := defScope s_are_exits) (by decide +kernel)) (fun _ _ _ _ _ => by exact (k_tup (K := K) (n := 2) rfl rfl (pgs_cons (pg_name (i := 4) sc_are_exits.nd rfl (.inl rfl)) (pgs_cons (pg_name (i := 7) sc_are_exits.nd rfl (.inl rfl)) pgs_nil)))) (fun _ _ _ _ _ => by exact pts_nil) (fun _ _ _ _ _ => by exact (pe_cmpR op_ge (pv 4) (pv 7) (by rfl)))) pa_nil))))))
        · apply pss_one
          exact (ps_ret pe_bl)
        · exact pss_nil
      apply pss_cons
      · exact (ps_set (i := 3) sc_are_exits.nd rfl (.inr rfl) (pe_callTy (k_dictP (K := K) rfl rfl) (by rfl) T.n_dict (by decide +kernel) (pa_cons (pv 0) pa_nil)))
      apply pss_cons
      · apply ps_if
        · exact (pt_not (pt_val (pe_callB (k_all (K := K) rfl rfl) (by rfl) T.n_all (by decide +kernel) (pa_cons (pe_lc (own := [("page", 4), ("later", 5)]) rfl sc_are_exits.nd (k_pi_list (K := K) rfl (pv 0)) (blkOk_by (own := [("page", 4), ("later", 5)]) (N := ["value", "pages", "roots", "exit_of", "page", "later", "pair", "other"]) (sc := defScope s_are_exits) (by decide +kernel)) (fun _ _ _ _ _ => by exact (k_tup (K := K) (n := 2) rfl rfl (pgs_cons (pg_name (i := 4) sc_are_exits.nd rfl (.inl rfl)) (pgs_cons (pg_name (i := 5) sc_are_exits.nd rfl (.inl rfl)) pgs_nil)))) (fun _ _ _ _ _ => by exact pts_nil) (fun _ _ _ _ _ => by exact (pe_cmp (pc_din (hu_of hr) (pv 5) (pv 3)) rfl))) pa_nil))))
        · apply pss_one
          exact (ps_ret pe_bl)
        · exact pss_nil
      apply pss_one
      exact (ps_ret (pe_callB (k_all (K := K) rfl rfl) (by rfl) T.n_all (by decide +kernel) (pa_cons (pe_lc (own := [("page", 4)]) rfl sc_are_exits.nd (k_pi_list (K := K) rfl (pv 1)) (blkOk_by (own := [("page", 4)]) (N := ["value", "pages", "roots", "exit_of", "page", "later", "pair", "other"]) (sc := defScope s_are_exits) (by decide +kernel)) (fun _ _ _ _ _ => by exact (pg_name (i := 4) sc_are_exits.nd rfl (.inl rfl))) (fun _ _ _ _ _ => by exact pts_nil) (fun _ _ _ _ _ => by exact (pe_call (ok_leads_to_root T) (hr.mono (by decide)) (by rfl) T.m_leads_to_root T.F_leads_to_root.kp T.b_leads_to_root .nil pass0 (pa_cons (pv 3) (pa_cons (pv 4) (pa_cons (pe_ix (k_ix_list (K := K) rfl) (pv 2) pe_int (fun _ _ => rfl)) pa_nil)))))) pa_nil)))
    rcases hd with ⟨hd, hsh⟩ | ⟨a, rfl, ha, rfl⟩
    · cases hd with
      | non => walk_at "sx"; exact isi_x (b := false) (.base .non) (by decide +kernel) (by walk_at "sx"; exact k _ (Ex.refl _))
      | bl b => walk_at "sx"; exact isi_x (b := false) (.base (.bl b)) (by decide +kernel) (by walk_at "sx"; exact k _ (Ex.refl _))
      | int i => walk_at "sx"; exact isi_x (b := false) (.base (.int i)) (by decide +kernel) (by walk_at "sx"; exact k _ (Ex.refl _))
      | str x => walk_at "sx"; exact isi_x (b := false) (.base (.str x)) (by decide +kernel) (by walk_at "sx"; exact k _ (Ex.refl _))
      | tup h1 h2 => walk_at "sx"; exact isi_x (b := false) (tyx_t (.inl (.inl h1))) (by decide +kernel) (by walk_at "sx"; exact k _ (Ex.refl _))
      | @lst a xs ds hA hx =>
        have hxl := hx.len
        have hlen := hlen ds rfl
        have dd : ∀ {b : Bool}, (decide (ds ≠ []) && ds.all pairD && okQ (ds.map qD)) = b → ∀ H', Ex H H' → Q (.bl b) H' := fun e H' e' => by
          have := k H' e'
          have e2 : exitsD (.list ds) = _ := e
          rw [e2] at this
          exact this
        refine seq_cut (fun σ' H' => σ' = [some (.ref a), none, none, none, none, none, none, none] ∧ Ex H H' ∧ ds ≠ [] ∧ ds.all pairD = true) (fun N hN => ?_) (fun σ1 H1 hC => ?_)
        · walk_at "sx"
          refine isi_x (b := true) (.base (.lst hA)) (by decide +kernel) ?_
          walk_at "sx"
          refine ⟨sz_ok (by omega), fun z nz1 => ?_⟩
          have ez := Ex.new nz1 (o := .lst [])
          refine ⟨_, .list [], Dx.dp _ _ (Dx.lst (ez _ _ hA) (DxAll.ex ez _ _ hx)), .lst (.inl (.inl upd_same)) .nil, hsh, rfl, ?_⟩
          have ee : PyData.eqv (.list ds) (.list []) = decide (ds = []) := by
            cases ds with
            | nil => rfl
            | cons q qs => simp [PyData.eqv, PyData.eqvAll]
          rw [ee]
          by_cases c0 : ds = []
          · rw [decide_eq_true c0]
            walk_at "sx"
            exact dd (by rw [decide_eq_false (by simpa using c0)]; rfl) _ ez
          · rw [decide_eq_false c0]
            walk_at "sx"
            refine ⟨⟨_, .inl (.inl (ez _ _ hA))⟩, fun D nD => ?_⟩
            refine lc_list (xs := xs) (fun _ => true) (fun i => V.bl (pairD (ds.getD i .none))) (.inl (.inl (ez _ _ hA))) nD (by omega) (fun u => rfl) (fun i x _ => tyes) (fun i x hi _ => ?_) (fun H2 e2 hD => ?_)
            · obtain ⟨e, he, hde⟩ := hx.at hi
              refine ev_call (vs := [x]) (ea_cons (ev_var rfl) ea_nil) (fun H3 e3 Q3 q3 E3 => ⟨x, e, rfl, Dx.ex (ez.trans e3) _ _ hde, ?_⟩)
              rw [show ds.getD i .none = e by rw [List.getD_eq_getElem?_getD, he]; rfl] at q3
              exact q3 _ (Ex.refl _)
            · rw [hxl, kept_bl] at hD
              refine allL (.inl (.inl hD)) ?_
              rw [all_get]
              cases c1 : ds.all pairD with
              | false =>
                walk_at "sx"
                exact dd (by rw [c1, Bool.and_false, Bool.false_and]) _ (ez.trans e2)
              | true =>
                walk_at "sx"
                exact hN _ _ ⟨rfl, ez.trans e2, c0, c1⟩
        obtain ⟨rfl, e1, c0, c1⟩ := hC
        obtain ⟨ts, rfl, tl, hts, hpg⟩ := dx_pairs hx c1
        have dd2 : ∀ {b : Bool}, okQ (ds.map qD) = b → ∀ H', Ex H H' → Q (.bl b) H' := fun e H' e' => dd (by rw [c1, decide_eq_true c0, e]; rfl) H' e'
        have ql : (ds.map qD).length ≤ 900 := by rw [List.length_map]; exact hlen
        clear dd hx hxl hsh k
        generalize ds.map qD = qs at tl hts hpg dd2 ql
        have hA0 : PairsAt K H a ts qs := ⟨.inl (.inl hA), tl, hts⟩
        have hA1 := hA0.ex e1
        have nl : (namesOf qs).length = qs.length := List.length_map ..
        refine seq_cut (fun σ' H' => ∃ b, σ' = [some (.ref a), some (.ref b), none, none, none, none, none, none] ∧ Ex H1 H' ∧ H' b = some (.lst ((namesOf qs).map V.int))) (fun N hN => ?_) (fun σ2 H2 hC => ?_)
        · walk_at "sx"
          refine ⟨⟨_, hA1.1⟩, fun D nD => ?_⟩
          refine lc_pairs (ts := ts) (u := fun i => .int (qs.getD i (0, 0)).1) (v := fun i => .int (qs.getD i (0, 0)).2) (.inl ⟨rfl, hA1.1⟩) (fun i t ht => hA1.2.2 i t ht) (fun _ => true) (fun i => V.int (qs.getD i (0, 0)).1) nD (by omega) (fun u v => rfl) (fun i hi => tyes) (fun i hi _ => ev_var rfl) (fun H2 e2 hD => ?_)
          rw [tl, kept_pairs (P := fun _ => true) (g := fun q => q.1), List.filter_eq_self.mpr (fun _ _ => rfl)] at hD
          exact hN _ _ ⟨D, rfl, e2, hD⟩
        obtain ⟨b, rfl, e2, hb⟩ := hC
        have hA2 := hA1.ex e2
        refine seq_cut (fun σ' H' => ∃ c, σ' = [some (.ref a), some (.ref b), some (.ref c), none, none, none, none, none] ∧ Ex H2 H' ∧ H' c = some (.lst ((rootsOf qs).map V.int))) (fun N hN => ?_) (fun σ3 H3 hC => ?_)
        · walk_at "sx"
          refine ⟨⟨_, hA2.1⟩, fun D nD => ?_⟩
          refine lc_pairs (ts := ts) (u := fun i => .int (qs.getD i (0, 0)).1) (v := fun i => .int (qs.getD i (0, 0)).2) (.inl ⟨rfl, hA2.1⟩) (fun i t ht => hA2.2.2 i t ht) (fun i => decide ((qs.getD i (0, 0)).1 = (qs.getD i (0, 0)).2)) (fun i => V.int (qs.getD i (0, 0)).1) nD (by omega) (fun u v => rfl) (fun i hi => ?_) (fun i hi _ => ev_var rfl) (fun H2 e2 hD => ?_)
          · refine et_is (et_test (ev_op (ev_var rfl) (ev_var rfl) (rv_eq rfl))) ?_
            exact decide_eq_decide.mpr ⟨fun e => V.int.inj e, fun e => congrArg V.int e⟩
          · rw [tl, kept_pairs (P := fun q => decide (q.1 = q.2)) (g := fun q => q.1)] at hD
            exact hN _ _ ⟨D, rfl, e2, hD⟩
        obtain ⟨c, rfl, e3, hc⟩ := hC
        have hb3 := e3 _ _ hb
        have E3 := (e1.trans e2).trans e3
        refine seq_cut (fun σ' H' => σ' = [some (.ref a), some (.ref b), some (.ref c), none, none, none, none, none] ∧ Ex H3 H' ∧ (rootsOf qs).length = 1 ∧ (namesOf qs).Pairwise (· < ·)) (fun N hN => ?_) (fun σ4 H4 hC => ?_)
        · walk_at "sx"
          refine lenL (.inl (.inl hc)) ?_
          rw [List.length_map]
          by_cases cr : (rootsOf qs).length = 1
          · have cr' : (((rootsOf qs).length : Nat) : Int) = 1 := by rw [cr]; rfl
            simp only [cr']
            walk_at "sx"
            refine slL (.inl (.inl hb3)) fun z nz1 => ?_
            have hcd : cutV ((namesOf qs).map V.int) (some 1) none = ((namesOf qs).drop 1).map V.int := cut_drop1 _
            rw [hcd]
            have ez := Ex.new nz1 (o := .lst (((namesOf qs).drop 1).map V.int))
            refine ⟨_, _, ⟨rfl, rfl⟩, _, _, .inl ⟨.inl (.inl (ez _ _ hb3)), .inl (.inl upd_same), fun D nD => ?_⟩⟩
            refine lc_zipS (xs := (namesOf qs).map V.int) (ys := ((namesOf qs).drop 1).map V.int) (fun _ => true) (fun i => V.bl (decide ((namesOf qs).getD i 0 ≥ (namesOf qs).getD (i + 1) 0))) (.inl (.inl (ez _ _ hb3))) (.inl (.inl upd_same)) (by rw [List.length_map, List.length_map, List.length_drop]; omega) nD (by rw [List.length_map, List.length_drop]; omega) (fun u v => rfl) (fun i x y _ _ => tyes) (fun i x y hx hy _ => ?_) (fun H2 e2 hD => ?_)
            · obtain ⟨p, hp1, rfl⟩ := ints_at hx
              obtain ⟨q, hq1, rfl⟩ := ints_at hy
              rw [List.getElem?_drop, Nat.add_comm 1 i] at hq1
              refine ev_is (ev_op (ev_var rfl) (ev_var rfl) rv_I0) ?_
              rw [List.getD_eq_getElem?_getD, hp1, List.getD_eq_getElem?_getD, hq1]
              rfl
            · rw [List.length_map, List.length_drop, kept_bl] at hD
              refine anyL (.inl (.inl hD)) ?_
              rw [asc_any]
              by_cases pw : (namesOf qs).Pairwise (· < ·)
              · rw [decide_eq_true pw]
                walk_at "sx"
                exact hN _ _ ⟨rfl, ez.trans e2, cr, pw⟩
              · rw [decide_eq_false pw]
                walk_at "sx"
                refine dd2 ?_ _ ((E3.trans ez).trans e2)
                unfold okQ
                rw [decide_eq_false pw, Bool.and_false, Bool.false_and, Bool.false_and]
          · have cr' : ¬ (((rootsOf qs).length : Nat) : Int) = 1 := by omega
            refine x_neI.mpr ⟨_, rfl, ?_⟩
            rw [decide_eq_false cr', if_pos (by rfl)]
            refine dd2 ?_ _ E3
            unfold okQ
            rw [decide_eq_false cr, Bool.false_and, Bool.false_and, Bool.false_and]
        obtain ⟨rfl, e4, cr, pw⟩ := hC
        have E4 := E3.trans e4
        have hA4 := hA0.ex E4
        have hb4 := e4 _ _ hb3
        have hc4 := e4 _ _ hc
        have ndk : (qs.map (·.1)).Nodup := names_nd pw
        obtain ⟨r, hr⟩ := List.length_eq_one_iff.mp cr
        walk_at "sx"
        refine ⟨a, ts, qs, rfl, hA4, ndk, fun d nd => ?_⟩
        walk_at "sx"
        have e5 := Ex.new nd (o := .dK (qs.map itK))
        have hA5 := hA4.ex e5
        generalize hH5 : upd H4 d (.dK (qs.map itK)) = H5 at e5 hA5
        have hd5 : H5 d = some (.dK (qs.map itK)) := by rw [← hH5]; exact upd_same
        refine ⟨⟨_, hA5.1⟩, fun D nD => ?_⟩
        refine lc_pairs (ts := ts) (u := fun i => .int (qs.getD i (0, 0)).1) (v := fun i => .int (qs.getD i (0, 0)).2) (.inl ⟨rfl, hA5.1⟩) (fun i t ht => hA5.2.2 i t ht) (fun _ => true) (fun i => V.bl (decide ((qs.getD i (0, 0)).2 ∈ namesOf qs))) nD (by omega) (fun u v => rfl) (fun i hi => tyes) (fun i hi _ => ?_) (fun H6 e6 hD => ?_)
        · refine ev_is (ev_din (k := Sum.inl (qs.getD i (0, 0)).2) (ev_var rfl) (ev_var rfl) hd5) ?_
          rw [getI_in]
        · rw [tl, kept_bl] at hD
          refine allL (.inl (.inl hD)) ?_
          rw [all_get qs (0, 0) fun q => decide (q.2 ∈ namesOf qs)]
          have E6 := (E4.trans e5).trans e6
          cases cc : closedQ qs with
          | false =>
            have cc' : (qs.all fun q => decide (q.2 ∈ namesOf qs)) = false := cc
            rw [cc']
            walk_at "sx"
            refine dd2 ?_ _ E6
            unfold okQ
            rw [cc, Bool.and_false, Bool.false_and]
          | true =>
            have cc' : (qs.all fun q => decide (q.2 ∈ namesOf qs)) = true := cc
            rw [cc']
            walk_at "sx"
            have hb6 := e6 _ _ (e5 _ _ hb4)
            have hc6 := e6 _ _ (e5 _ _ hc4)
            have hd6 := e6 _ _ hd5
            refine ⟨⟨_, .inl (.inl hb6)⟩, fun D2 nD2 => ?_⟩
            refine lc_list (xs := (namesOf qs).map V.int) (fun _ => true) (fun i => V.bl (lead (nxq qs) r qs.length ((namesOf qs).getD i 0))) (.inl (.inl hb6)) nD2 (by rw [List.length_map]; omega) (fun u => rfl) (fun i x _ => tyes) (fun i x hx _ => ?_) (fun H7 e8 hD2 => ?_)
            · obtain ⟨p, hp1, rfl⟩ := ints_at hx
              rw [hr] at hc6
              refine ev_call (vs := [.ref d, .int p, .int r]) (ea_cons (ev_var rfl) (ea_cons (ev_var rfl) (ea_cons (ev_op (ev_var rfl) ev_c (rv_ixL (.inl (.inl hc6)) (atI_n (j := 0) rfl rfl))) ea_nil))) (fun H3 e3 Q3 q3 E3 => ?_)
              refine ⟨d, p, r, qs, nxq qs, fun x => x ∈ namesOf qs, rfl, e3 _ _ hd6, by omega, List.mem_of_getElem? hp1, fun x hx => ?_, fun H' e' => ?_⟩
              · obtain ⟨⟨a', y⟩, m, e⟩ := List.mem_map.mp hx
                have e' : a' = x := e
                subst e'
                rw [nxq_at pw m]
                refine ⟨(getI_mem ndk).mp m, ?_⟩
                have := closed_nx pw cc a' hx
                rw [nxq_at pw m] at this
                exact this
              · rw [List.getD_eq_getElem?_getD, hp1] at q3
                exact q3 H' e'
            · rw [List.length_map, kept_bl] at hD2
              refine allL (.inl (.inl hD2)) ?_
              rw [all_get (namesOf qs) 0 fun p => lead (nxq qs) r qs.length p]
              refine dd2 ?_ _ (E6.trans e8)
              unfold okQ
              rw [decide_eq_true cr, decide_eq_true pw, cc, hr]
              rfl
    · walk_at "sx"
      exact isi_x (b := false) (.base (.dK ha)) (by decide +kernel) (by walk_at "sx"; exact k _ (Ex.refl _))
end
end LW

set_option Elab.async false
set_option linter.all false
set_option maxRecDepth 100000
set_option maxHeartbeats 4000000
namespace LW
open PySem PySem.Spec PyProof.Rows L2 BC Evl TR EF L2.DX
local macro_rules | `(tactic| walk_at "sx") => `(tactic| try simp only [x_callS, x_sortSetB, x_makeS, x_makeKS, x_seq, x_next, x_brk, x_cnt, x_nev, x_ret, x_retN, x_drop, x_ifS, x_asg, x_gn, x_gsub, x_par, x_par3, x_aug, x_for, x_lc, x_rng1, x_rng2, x_rng3, x_ilist, x_itup, x_ienum, x_izip, x_izipA, x_istr, x_var, x_c, x_op, x_un, x_test, x_b, x_chain, x_and, x_or, x_not, x_andV, x_orV, x_notV, x_ife, x_nil, x_cons, x_lst, x_tup, x_cb, x_call, x_callK, x_bm, x_bm0, x_tru, x_sl, x_nopart, x_part, x_revL, x_I0, x_I, x_U, x_ip, x_ipC, x_eqI, x_neI, x_eqB, x_neB, x_eqS, x_neS, x_isB, x_isNB, x_lrg, x_gall, x_lenSet, x_sortSet, x_rg1, x_rg2, x_dnewK, x_dnewT, x_dget, x_dget1, x_dget2, x_din, x_dnotin, x_dput, x_ikeys, x_fld, x_sfld, x_prop, x_meth, x_make, x_dc, x_callO, x_callOK,
  L2.start, List.map_cons, List.map_nil, List.length_cons, List.length_nil, Nat.reduceAdd, Nat.reduceSub, Nat.sub_self, Nat.zero_add, List.replicate, List.replicate_succ, List.replicate_zero, List.append_nil, List.cons_append, List.nil_append, List.set_cons_zero, List.set_cons_succ, List.getElem?_cons_zero, List.getElem?_cons_succ, Option.some.injEq, V.int.injEq, V.bl.injEq, V.ref.injEq, V.str.injEq, List.cons.injEq, and_true, true_and, exists_eq_left', exists_eq_left, exists_and_left, exists_eq, if_true, if_false, ite_true, ite_false, Bool.true_eq_false, Bool.false_eq_true, reduceIte, reduceCtorEq, Bool.not_true, Bool.not_false, decide_true, decide_false, decide_eq_true_eq, Bool.and_true, Bool.true_and, Bool.and_self, Bool.and_false, Bool.false_and, Bool.or_self, Bool.or_false, Bool.false_or, Bool.or_true, Bool.true_or, eq_self])
section
variable {P : Program} {w : World} {K : PySem.W.Frag} {mg : Str → Option Value} {base : Heap}
def qsOf : PyData → List (Int × Int)
  | .list ds => ds.map qD
  | _ => []
theorem eff_other {d1 d2 : PyData} (h : d1 ≠ .none) : effD d1 d2 = (inD 0 39 d1 && exitsD d2 && decide (numD d1 ∈ pagesD d2)) := by
  cases d1 with
  | none => exact absurd rfl h
  | int i =>
    show (decide (0 ≤ i ∧ i ≤ 39) && exitsD d2 && decide (i ∈ pagesD d2)) = (decide (0 ≤ i) && decide (i ≤ 39) && exitsD d2 && decide (i ∈ pagesD d2))
    congr 2
    by_cases a : 0 ≤ i
    · by_cases b : i ≤ 39
      · rw [decide_eq_true a, decide_eq_true b, decide_eq_true ⟨a, b⟩]; rfl
      · rw [decide_eq_false b, decide_eq_false (fun q => b q.2), Bool.and_false]
    · rw [decide_eq_false a, decide_eq_false (fun q => a q.1), Bool.false_and]
  | _ => rfl
/-- valid exits that stand in the heap -/
theorem exits_at {H : Hp} {v : V} {d : PyData} (h : ArgX H v d) (c : exitsD d = true) : ∃ (a : Addr) (ts : List Addr), v = .ref a ∧ PairsAt K H a ts (qsOf d) ∧ ((qsOf d).map (·.1)).Nodup := by
  rcases h with ⟨hd, _⟩ | ⟨a, rfl, ha, rfl⟩
  · cases hd with
    | @lst a xs ds hA hx =>
      have c' : (decide (ds ≠ []) && ds.all pairD && okQ (ds.map qD)) = true := c
      rw [Bool.and_eq_true, Bool.and_eq_true] at c'
      obtain ⟨ts, rfl, tl, hts, _⟩ := dx_pairs hx c'.1.2
      refine ⟨a, ts, rfl, ⟨.inl (.inl hA), tl, hts⟩, ?_⟩
      have o := c'.2
      unfold okQ at o
      rw [Bool.and_eq_true, Bool.and_eq_true, Bool.and_eq_true, decide_eq_true_eq, decide_eq_true_eq] at o
      exact names_nd o.1.1.2
    | _ => cases c
  · cases c
theorem eff_at {H : Hp} {v : V} {d1 d : PyData} (h : ArgX H v d) (c : effD d1 d = true) : ∃ (a : Addr) (ts : List Addr), v = .ref a ∧ PairsAt K H a ts (qsOf d) ∧ ((qsOf d).map (·.1)).Nodup := by
  by_cases n : d1 = .none
  · subst n
    rcases h with ⟨hd, _⟩ | ⟨a, rfl, ha, rfl⟩
    · cases hd with
      | @lst a xs ds hA hx =>
        have e : ds = [] := of_decide_eq_true c
        subst e
        cases hx
        exact ⟨a, [], rfl, ⟨.inl (.inl hA), rfl, fun i t h => by simp at h⟩, List.nodup_nil⟩
      | _ => cases c
    · cases c
  · rw [eff_other n, Bool.and_eq_true, Bool.and_eq_true] at c
    exact exits_at h c.1.2
def spInitX (C Ce : Addr) (K : PySem.W.Frag) : Sp := fun vs H Q E => ∃ (x dx : Addr) (v1 v2 : V) (d1 d2 : PyData), vs = [.ref x, v1, v2] ∧ H x = some (.ins C dx []) ∧ ArgX H v1 d1 ∧ ArgX H v2 d2 ∧ LenX d2 ∧
  (effD d1 d2 = true → ∀ H', (∀ b o, H b = some o → b ≠ x → H' b = some o) → EffAt C H' x v1 (qsOf d2) → Q .non H') ∧ (effD d1 d2 = false → ∀ H', Ex H H' → E (.ref Ce) none H')
theorem ok_Effect___init (T : Txt K mg) : FnOk P w K mg base (L2.CX P w) 5 T.f_Effect___init T.fd_Effect___init ["self", "first", "exits"] (spInitX T.C_Effect T.C_InvalidEffectError K) := by
  refine T.F_Effect___init.okX sc_Effect___init (fun vs H Q E h => ?_) (fun cdv A outer s H vs Q E hr h => ?_)
  · obtain ⟨x, dx, v1, v2, d1, d2, rfl, _⟩ := h
    rfl
  · obtain ⟨x, dx, v1, v2, d1, d2, rfl, hx, h1, h2, hlen, k, kE⟩ := h
    apply Exists.intro
    apply And.intro
    · apply pss_cons
      · apply ps_if
        · exact (pt_cmpR op_isN (pv 1) pe_non (by rfl))
        · apply pss_one
          exact (ps_set (i := 3) sc_Effect___init.nd rfl (.inl rfl) (pe_and (pe_callB (k_isi (K := K) rfl) (by rfl) T.n_isinstance (by decide +kernel) (pa_cons (pv 2) (pa_cons (pe_bltn (v := .ty "list") (by rfl) T.n_list (by decide +kernel) rfl) pa_nil))) (pe_one (pe_cmpR (k_eqD (K := K) rfl hr.units) (pv 2) (pe_lst pa_nil) (by rfl)))))
        · apply pss_one
          exact (ps_set (i := 3) sc_Effect___init.nd rfl (.inl rfl) (pe_and (pe_call (ok_is_page T) (hr.mono (by decide)) (by rfl) T.m_is_page T.F_is_page.kp T.b_is_page .nil pass0 (pa_cons (pv 1) pa_nil)) (pe_and (pe_call (ok_are_exits T) (hr.mono (by decide)) (by rfl) T.m_are_exits T.F_are_exits.kp T.b_are_exits .nil pass0 (pa_cons (pv 2) pa_nil)) (pe_one (pe_cmp (pc_din (hu_of hr) (pv 1) (pe_callTy (k_dictP (K := K) rfl rfl) (by rfl) T.n_dict (by decide +kernel) (pa_cons (pv 2) pa_nil))) rfl)))))
      apply pss_cons
      · apply ps_if
        · exact (pt_not (pt_val (pv 3)))
        · apply pss_one
          exact (ps_raise rfl (takes_of rfl rfl rfl rfl) (pmk_own PySem.F.excBase_ValueError T.x_InvalidEffectError T.g_InvalidEffectError T.k_InvalidEffectError (raises_own T.b_InvalidEffectError T.t_InvalidEffectError) (by rfl)))
        · exact pss_nil
      apply pss_cons
      · exact (k_sfld (K := K) rfl (pv 0) (pv 1) rfl)
      apply pss_cons
      · exact (k_sfld (K := K) rfl (pv 0) (pe_callTy (k_tupOf (K := K) rfl) (by rfl) T.n_tuple (by decide +kernel) (pa_cons (pv 2) pa_nil)) rfl)
      apply pss_one
      exact (k_sfld (K := K) rfl (pv 0) (pe_callTy (k_dictP (K := K) rfl rfl) (by rfl) T.n_dict (by decide +kernel) (pa_cons (pv 2) pa_nil)) rfl)
    refine seq_cut (fun σ' H' => σ' = [some (.ref x), some v1, some v2, some (.bl (effD d1 d2))] ∧ Ex H H') (fun N hN => ?_) (fun σ1 H1 hC => ?_)
    · by_cases n : d1 = .none
      · subst n
        have hv : v1 = .non := by
          rcases h1 with ⟨hd, _⟩ | ⟨a, _, _, e⟩
          · cases hd; rfl
          · cases e
        subst hv
        walk_at "sx"
        rcases h2 with ⟨hd, hsh⟩ | ⟨a, rfl, ha, rfl⟩
        · cases hd with
          | non => exact isi_x (b := false) (.base .non) (by decide +kernel) (by walk_at "sx"; exact hN _ _ ⟨rfl, Ex.refl _⟩)
          | bl b => exact isi_x (b := false) (.base (.bl b)) (by decide +kernel) (by walk_at "sx"; exact hN _ _ ⟨rfl, Ex.refl _⟩)
          | int i => exact isi_x (b := false) (.base (.int i)) (by decide +kernel) (by walk_at "sx"; exact hN _ _ ⟨rfl, Ex.refl _⟩)
          | str y => exact isi_x (b := false) (.base (.str y)) (by decide +kernel) (by walk_at "sx"; exact hN _ _ ⟨rfl, Ex.refl _⟩)
          | tup g1 g2 => exact isi_x (b := false) (tyx_t (.inl (.inl g1))) (by decide +kernel) (by walk_at "sx"; exact hN _ _ ⟨rfl, Ex.refl _⟩)
          | @lst a xs ds hA hx =>
            refine isi_x (b := true) (.base (.lst hA)) (by decide +kernel) ?_
            walk_at "sx"
            refine ⟨sz_ok (by omega), fun z nz1 => ?_⟩
            have ez := Ex.new nz1 (o := .lst [])
            refine ⟨_, .list [], Dx.dp _ _ (Dx.lst (ez _ _ hA) (DxAll.ex ez _ _ hx)), .lst (.inl (.inl upd_same)) .nil, hsh, rfl, ?_⟩
            have ee : PyData.eqv (.list ds) (.list []) = decide (ds = []) := by
              cases ds with
              | nil => rfl
              | cons q qs => simp [PyData.eqv, PyData.eqvAll]
            rw [ee]
            exact hN _ _ ⟨rfl, ez⟩
        · exact isi_x (b := false) (.base (.dK ha)) (by decide +kernel) (by walk_at "sx"; exact hN _ _ ⟨rfl, Ex.refl _⟩)
      · have hv : v1 ≠ .non := fun e => by
          subst e
          rcases h1 with ⟨hd, _⟩ | ⟨a, e, _, _⟩
          · cases hd; exact n rfl
          · cases e
        rw [eff_other n] at hN
        walk_at "sx"
        rw [if_neg hv]
        refine ⟨v1, rfl, de_kd h1.de, ?_⟩
        rw [inR_inD (h1.de (K := K))]
        cases c1 : inD 0 39 d1 with
        | false =>
          rw [c1] at hN
          walk_at "sx"
          exact hN _ _ ⟨rfl, Ex.refl _⟩
        | true =>
          rw [c1] at hN
          obtain ⟨p, rfl, p0, p1⟩ := in_num c1
          have hvp : v1 = .int p := by
            rcases h1 with ⟨hd, _⟩ | ⟨a, _, _, e⟩
            · cases hd; rfl
            · cases e
          subst hvp
          walk_at "sx"
          refine ⟨v2, d2, rfl, h2, hlen, fun H1 e1 => ?_⟩
          cases c2 : exitsD d2 with
          | false =>
            rw [c2] at hN
            walk_at "sx"
            exact hN _ _ ⟨rfl, e1⟩
          | true =>
            rw [c2] at hN
            obtain ⟨a, ts, rfl, hA, ndk⟩ := exits_at (K := K) h2 c2
            walk_at "sx"
            refine ⟨a, ts, qsOf d2, rfl, hA.ex e1, ndk, fun d nd => ?_⟩
            have e5 := Ex.new nd (o := .dK ((qsOf d2).map itK))
            refine ⟨d, rfl, _, DGet.k (k := Sum.inl p) upd_same, ?_⟩
            rw [getI_in]
            have ep : pagesD d2 = namesOf (qsOf d2) := by cases d2 <;> rfl
            rw [← ep]
            exact hN _ _ ⟨rfl, e1.trans e5⟩
    obtain ⟨rfl, e1⟩ := hC
    cases c : effD d1 d2 with
    | false =>
      walk_at "sx"
      exact kE c _ e1
    | true =>
      have k := k c
      obtain ⟨a, ts, rfl, hA, ndk⟩ := eff_at (K := K) h2 c
      have hl40 : (qsOf d2).length ≤ 900 := by
        cases d2 with
        | list ds => show (ds.map qD).length ≤ 900; rw [List.length_map]; exact hlen ds rfl
        | _ => exact Nat.zero_le _
      generalize qsOf d2 = qs at k hA ndk hl40
      have hA1 := hA.ex e1
      have hx1 := e1 _ _ hx
      walk_at "sx"
      refine ⟨_, dx, _, hx1, T.cl_Effect, T.na_Effect_begin_page, by show 0 < 1000; omega, ?_⟩
      have nxa : ∀ {b : Addr} {o : HO}, H1 b = some o → (∀ C dx fs, o ≠ .ins C dx fs) → b ≠ x := fun h1 h2 => ne_of h1 hx1 (h2 _ _ _)
      have hpx : ∀ (fs : List (Str × V)) i t, ts[i]? = some t → PairAt (upd H1 x (.ins T.C_Effect dx fs)) t (qs.getD i (0, 0)) := fun fs i t hi => by
        have h := hA1.2.2 i t hi
        have ne : t ≠ x := ne_of (pr_ev h) hx1 (by intro z; cases z)
        unfold PairAt
        rw [upd_ne ne]
        exact h
      have hAx : ∀ fs : List (Str × V), PairsAt K (upd H1 x (.ins T.C_Effect dx fs)) a ts qs := fun fs => by
        refine ⟨?_, hA1.2.1, hpx fs⟩
        rcases hA1.1 with h | h
        · rcases h with h | ⟨o, h⟩
          · exact .inl (.inl (by rw [upd_ne (ne_of h hx1 (by intro z; cases z))]; exact h))
          · exact .inl (.inr ⟨o, by rw [upd_ne (ne_of h hx1 (by intro z; cases z))]; exact h⟩)
        · exact .inr h
      refine ⟨a, _, rfl, .inl ⟨(hAx _).1, fun t nt => ?_⟩⟩
      have hx2 : ∀ fs : List (Str × V), (upd (upd H1 x (.ins T.C_Effect dx fs)) t (.tup (ts.map V.ref))) x = some (.ins T.C_Effect dx fs) := fun fs => by
        have ntx : x ≠ t := ne_of_none upd_same nt
        rw [upd_ne ntx, upd_same]
      refine ⟨_, dx, _, hx2 _, T.cl_Effect, T.na_Effect_pairs, by rw [len_flds1]; omega, ?_⟩
      have ntx : x ≠ t := ne_of_none upd_same nt
      have nt1 : H1 t = none := by rw [upd_ne (Ne.symm ntx)] at nt; exact nt
      -- the heap with the tuple and the fields
      generalize hf2 : putF "pairs" (V.ref t) (putF "begin_page" (v1) []) = f2
      have l2 : f2.length = 2 := by rw [← hf2]; exact len_flds2 _ _
      have hG : ∀ b o, b ≠ x → H1 b = some o → (upd (upd (upd H1 x (.ins T.C_Effect dx (putF "begin_page" (v1) []))) t (.tup (ts.map V.ref))) x (.ins T.C_Effect dx f2)) b = some o := fun b o nb h => by
        rw [upd_ne nb, upd_ne (ne_of_none h nt1), upd_ne nb]
        exact h
      have hGx : (upd (upd (upd H1 x (.ins T.C_Effect dx (putF "begin_page" (v1) []))) t (.tup (ts.map V.ref))) x (.ins T.C_Effect dx f2)) x = some (.ins T.C_Effect dx f2) := upd_same
      have hGt : (upd (upd (upd H1 x (.ins T.C_Effect dx (putF "begin_page" (v1) []))) t (.tup (ts.map V.ref))) x (.ins T.C_Effect dx f2)) t = some (.tup (ts.map V.ref)) := by rw [upd_ne (Ne.symm ntx), upd_same]
      generalize (upd (upd (upd H1 x (.ins T.C_Effect dx (putF "begin_page" (v1) []))) t (.tup (ts.map V.ref))) x (.ins T.C_Effect dx f2)) = G at hG hGx hGt ⊢
      have hAG : PairsAt K G a ts qs := by
        refine ⟨?_, hA1.2.1, fun i u hi => ?_⟩
        · rcases hA1.1 with h | h
          · rcases h with h | ⟨o, h⟩
            · exact .inl (.inl (hG _ _ (ne_of h hx1 (by intro z; cases z)) h))
            · exact .inl (.inr ⟨o, hG _ _ (ne_of h hx1 (by intro z; cases z)) h⟩)
          · exact .inr h
        · have h := hA1.2.2 i u hi
          exact hG _ _ (ne_of (pr_ev h) hx1 (by intro z; cases z)) h
      refine ⟨a, ts, qs, rfl, hAG, ndk, fun d nd => ?_⟩
      have ndx : x ≠ d := ne_of_none hGx nd
      refine ⟨_, dx, f2, by rw [upd_ne ndx]; exact hGx, T.cl_Effect, T.na_Effect_exit_of, by rw [l2]; omega, ?_⟩
      refine k _ (fun b o h nb => ?_) ⟨dx, t, d, ts, ?_, ?_, hA1.2.1, fun i u hi => ?_, ?_⟩
      · have h1 := hG b o nb (e1 _ _ h)
        rw [upd_ne nb, upd_ne (ne_of_none h1 nd)]
        exact h1
      · rw [upd_same, ← hf2, flds_all]
      · rw [upd_ne (Ne.symm ntx), upd_ne (ne_of_none hGt nd)]
        exact hGt
      · have h := hAG.2.2 i u hi
        unfold PairAt
        rw [upd_ne (ne_of (pr_ev h) hGx (by intro z; cases z)), upd_ne (ne_of_none (pr_ev h) nd)]
        exact h
      · rw [upd_ne (Ne.symm ndx), upd_same]
end
end LW

set_option Elab.async false
set_option linter.all false
set_option maxRecDepth 100000
set_option maxHeartbeats 4000000
namespace LW
open PySem PySem.Spec PyProof.Rows L2 BC Evl TR EF L2.DX
local macro_rules | `(tactic| walk_at "sx") => `(tactic| try simp only [x_callS, x_sortSetB, x_makeS, x_makeKS, x_seq, x_next, x_brk, x_cnt, x_nev, x_ret, x_retN, x_drop, x_ifS, x_asg, x_gn, x_gsub, x_par, x_par3, x_aug, x_for, x_lc, x_rng1, x_rng2, x_rng3, x_ilist, x_itup, x_ienum, x_izip, x_izipA, x_istr, x_var, x_c, x_op, x_un, x_test, x_b, x_chain, x_and, x_or, x_not, x_andV, x_orV, x_notV, x_ife, x_nil, x_cons, x_lst, x_tup, x_cb, x_call, x_callK, x_bm, x_bm0, x_tru, x_sl, x_nopart, x_part, x_revL, x_I0, x_I, x_U, x_ip, x_ipC, x_eqI, x_neI, x_eqB, x_neB, x_eqS, x_neS, x_isB, x_isNB, x_lrg, x_gall, x_lenSet, x_sortSet, x_rg1, x_rg2, x_dnewK, x_dnewT, x_dget, x_dget1, x_dget2, x_din, x_dnotin, x_dput, x_ikeys, x_fld, x_sfld, x_prop, x_meth, x_make, x_dc, x_callO, x_callOK,
  L2.start, List.map_cons, List.map_nil, List.length_cons, List.length_nil, Nat.reduceAdd, Nat.reduceSub, Nat.sub_self, Nat.zero_add, List.replicate, List.replicate_succ, List.replicate_zero, List.append_nil, List.cons_append, List.nil_append, List.set_cons_zero, List.set_cons_succ, List.getElem?_cons_zero, List.getElem?_cons_succ, Option.some.injEq, V.int.injEq, V.bl.injEq, V.ref.injEq, V.str.injEq, List.cons.injEq, and_true, true_and, exists_eq_left', exists_eq_left, exists_and_left, exists_eq, if_true, if_false, ite_true, ite_false, Bool.true_eq_false, Bool.false_eq_true, reduceIte, reduceCtorEq, Bool.not_true, Bool.not_false, decide_true, decide_false, decide_eq_true_eq, Bool.and_true, Bool.true_and, Bool.and_self, Bool.and_false, Bool.false_and, Bool.or_self, Bool.or_false, Bool.false_or, Bool.or_true, Bool.true_or, eq_self])
section
variable {P : Program} {w : World} {K : PySem.W.Frag} {mg : Str → Option Value} {base : Heap}
def spBag : Sp := fun vs H Q _ => ∃ (n : Int) (k : Nat), vs = [.int n, .int k] ∧ k < 64 ∧ ∀ p H', H p = none → Ex H H' → BagAt H' p 0 → Q (.ref p) H'
theorem ok_law_bag (T : Txt K mg) : FnOk P w K mg base CX0 1 T.f_law_bag T.fd_law_bag ["_law_cell", "_law_turn"] spBag := by
  refine T.F_law_bag.ok sc_law_bag (fun vs H Q E h => ?_) (fun cdv A outer s H vs Q E hr h => ?_)
  · obtain ⟨n, k, rfl, _⟩ := h
    rfl
  · obtain ⟨n, k, rfl, hk, kk⟩ := h
    apply Exists.intro
    apply And.intro
    · apply pss_cons
      · exact (ps_set (i := 2) sc_law_bag.nd rfl (.inl rfl) (pe_callB (call_max2 rfl) (by rfl) T.n_max (by decide +kernel) (pa_cons (pv 0) (pa_cons (pe_op op_sub pe_int (pv 0)) pa_nil))))
      apply pss_one
      exact (ps_ret (pe_lst (pa_cons (pe_callB (call_max2 rfl) (by rfl) T.n_max (by decide +kernel) (pa_cons pe_int (pa_cons (pe_op op_sub (pv 2) (pe_op op_powX pe_int pe_int)) pa_nil))) (pa_cons (pe_op op_modX (pe_op op_add (pe_op op_mulX (pv 0) (pe_op op_powX pe_int pe_int)) (pe_op op_mulX (pe_op op_powX pe_int pe_int) (pe_op op_add (pv 1) pe_int))) (pe_op op_add (pe_op op_powX pe_int pe_int) pe_int)) (pa_cons pe_int pa_nil)))))
    refine seq_asg (fun v H' => ∃ z : Int, v = .int z ∧ H' = H) (fun R hR => ?_) (fun v H1 hC => ?_)
    · walk_at "sx"
      refine ⟨_, _, ⟨rfl, rfl⟩, ?_⟩
      exact hR _ _ ⟨_, rfl, rfl⟩
    obtain ⟨z, rfl, rfl⟩ := hC
    walk_at "sx"
    have t18 : Int.toNat 18 = 18 := rfl
    have t42 : Int.toNat 42 = 42 := rfl
    have t3 : Int.toNat 3 = 3 := rfl
    have t4 : Int.toNat 4 = 4 := rfl
    rw [t42, t3, t4]
    refine ⟨⟨by decide, by decide, by decide⟩, _, _, ⟨rfl, rfl⟩, ⟨by decide, by decide, by decide⟩, .inl (.inr ⟨by decide, by decide⟩), ⟨by decide, by decide, by decide⟩, .inl (.inr ⟨by omega, by omega⟩), ⟨by decide, by decide, by decide⟩, by decide, sz_ok (by omega), fun p np => ?_⟩
    have m0 : 0 ≤ (n * 1000003 ^ 3 + 161803409 ^ 4 * ((k : Int) + 1)) % (10 ^ 42 + 63) := Int.emod_nonneg _ (by decide)
    have m1 : (n * 1000003 ^ 3 + 161803409 ^ 4 * ((k : Int) + 1)) % (10 ^ 42 + 63) < 10 ^ 42 + 63 := Int.emod_lt_of_pos _ (by decide)
    exact kk p _ np (Ex.new np) ⟨_, _, _, upd_same, m0, by omega, by omega, by omega⟩
theorem ok_law_draw (T : Txt K mg) : FnOk P w K mg base CX0 1 T.f_law_draw T.fd_law_draw ["_law_bag_here", "_law_most"] spDraw := by
  refine T.F_law_draw.ok sc_law_draw (fun vs H Q E h => ?_) (fun cdv A outer s H vs Q E hr h => ?_)
  · obtain ⟨b, m, c, rfl, _⟩ := h
    rfl
  · obtain ⟨b, m, c, rfl, h1, h2, hB, hc, k⟩ := h
    obtain ⟨x0, x1, x2, hb, h3, h4, h5, h6⟩ := hB
    apply Exists.intro
    apply And.intro
    · apply pss_cons
      · apply ps_if
        · exact (pt_cmpR op_gt (pe_ix (k_ix_list (K := K) rfl) (pv 0) pe_int (fun _ _ => rfl)) pe_int (by rfl))
        · apply pss_cons
          · exact (ps_set (i := 3) sc_law_draw.nd rfl (.inl rfl) (pe_op op_modX (pe_ix (k_ix_list (K := K) rfl) (pv 0) pe_int (fun _ _ => rfl)) (pv 1)))
          apply pss_cons
          · exact (ps_asg (pe_op op_fdivX (pe_ix (k_ix_list (K := K) rfl) (pv 0) pe_int (fun _ _ => rfl)) (pv 1)) (pg_sub (pv 0) pe_int set_list))
          apply pss_one
          exact (ps_ret (pv 3))
        · exact pss_nil
      apply pss_cons
      · exact (ps_asg (pe_op op_add (pe_ix (k_ix_list (K := K) rfl) (pv 0) pe_int (fun _ _ => rfl)) pe_int) (pg_sub (pv 0) pe_int set_list))
      apply pss_cons
      · exact (ps_set (i := 2) sc_law_draw.nd rfl (.inl rfl) (pe_op op_modX (pe_op op_add (pe_ix (k_ix_list (K := K) rfl) (pv 0) pe_int (fun _ _ => rfl)) (pe_op op_mulX (pe_ix (k_ix_list (K := K) rfl) (pv 0) pe_int (fun _ _ => rfl)) (pe_op op_powX pe_int pe_int))) (pe_op op_add (pe_op op_powX pe_int pe_int) pe_int)))
      apply pss_cons
      · exact (ps_set (i := 2) sc_law_draw.nd rfl (.inl rfl) (pe_op op_add (pe_op op_modX (pe_op op_powX (pv 2) pe_int) (pe_op op_add (pe_op op_powX pe_int pe_int) pe_int)) (pe_op op_mulX (pe_ix (k_ix_list (K := K) rfl) (pv 0) pe_int (fun _ _ => rfl)) pe_int)))
      apply pss_one
      exact (ps_ret (pe_op op_modX (pe_op op_fdivX (pe_op op_modX (pe_op op_powX (pv 2) pe_int) (pe_op op_add (pe_op op_powX pe_int pe_int) pe_int)) pe_int) (pv 1)))
    walk_at "sx"
    refine ixL (.inl (.inl hb)) (atI_n (j := 0) rfl rfl) ?_
    walk_at "sx"
    have hdm : ∀ i, CDivW i m := fun i => wide_div (b := 2001) h1 (big_lt h1 h2) (by omega) (by omega)
    by_cases h0 : x0 > 1
    · simp only [h0, if_true]
      refine ixL (.inl (.inl hb)) (atI_n (j := 0) rfl rfl) ?_
      walk_at "sx"
      refine ⟨h1, ?_⟩
      refine ixL (.inl (.inl hb)) (atI_n (j := 0) rfl rfl) ?_
      walk_at "sx"
      refine ⟨hdm _, ?_⟩
      refine setL hb (ixN_n (j := 0) rfl (by simp)) ?_
      exact k _ _ (Int.emod_nonneg _ (by omega)) (Int.emod_lt_of_pos _ h1) Fx.put ⟨_, _, _, upd_same, h3, h4, h5, by omega⟩
    · simp only [h0, if_false]
      refine ixL (.inl (.inl hb)) (atI_n (j := 2) rfl rfl) ?_
      walk_at "sx"
      refine setL hb (ixN_n (j := 2) rfl (by simp)) ?_
      have hb2 : (upd H b (.lst [V.int x0, V.int x1, V.int (x2 + 1)])) b = some (.lst [V.int x0, V.int x1, V.int (x2 + 1)]) := upd_same
      refine ixL (.inl (.inl hb2)) (atI_n (j := 1) rfl rfl) ?_
      walk_at "sx"
      refine ixL (.inl (.inl hb2)) (atI_n (j := 2) rfl rfl) ?_
      walk_at "sx"
      have t42 : Int.toNat 42 = 42 := rfl
      have t39 : Int.toNat 39 = 39 := rfl
      have t37 : Int.toNat 37 = 37 := rfl
      have t3 : Int.toNat 3 = 3 := rfl
      have t5 : Int.toNat 5 = 5 := rfl
      rw [t42, t39, t3]
      generalize hz : (x1 + (x2 + 1) * 2971215073 ^ 3) % (10 ^ 42 + 63) = z
      have hz0 : 0 ≤ z := by rw [← hz]; exact Int.emod_nonneg _ (by decide)
      have hz1 : z < 10 ^ 42 + 63 := by rw [← hz]; exact Int.emod_lt_of_pos _ (by decide)
      refine ⟨⟨by decide, by decide, by decide⟩, .inl (.inl ⟨by omega, by omega⟩), ⟨by decide, by decide, by decide⟩, by decide, ⟨by decide, by decide, Nat.lt_of_lt_of_le (log2_small (k := 200) (by decide) (by omega)) (by decide)⟩, ⟨by decide, by decide, by decide⟩, by decide, ?_⟩
      refine ixL (.inl (.inl hb2)) (atI_n (j := 2) rfl rfl) ?_
      walk_at "sx"
      rw [t37, t5]
      generalize hy : z ^ 3 % (10 ^ 39 + 33) = y
      have hy0 : 0 ≤ y := by rw [← hy]; exact Int.emod_nonneg _ (by decide)
      have hy1 : y < 10 ^ 39 + 33 := by rw [← hy]; exact Int.emod_lt_of_pos _ (by decide)
      refine ⟨.inl (.inl ⟨by omega, by omega⟩), ⟨by decide, by decide, Nat.lt_of_lt_of_le (log2_small (k := 200) (by decide) (by omega)) (by decide)⟩, ⟨by decide, by decide, by decide⟩, by decide, ⟨by decide, by decide⟩, h1, ?_⟩
      exact k _ _ (Int.emod_nonneg _ (by omega)) (Int.emod_lt_of_pos _ h1) Fx.put ⟨_, _, _, hb2, h3, h4, by omega, by omega⟩
def spCells (K : PySem.W.Frag) : Sp := fun vs H Q _ => ∃ (a : Addr) (ns : List Int), vs = [.ref a] ∧ SqL K H a (ns.map V.int) ∧ ns.length ≤ 63 ∧ ∀ p ms H', H p = none → Ex H H' → H' p = some (.lst ((ms : List Int).map V.int)) → ms.length ≤ 64 → Q (.ref p) H'
theorem ok_law_cells (T : Txt K mg) : FnOk P w K mg base CX0 3 T.f_law_cells T.fd_law_cells ["_law_script"] (spCells K) := by
  refine T.F_law_cells.ok sc_law_cells (fun vs H Q E h => ?_) (fun cdv A outer s H vs Q E hr h => ?_)
  · obtain ⟨a, ns, rfl, _⟩ := h
    rfl
  · obtain ⟨a, ns, rfl, hA, hl, k⟩ := h
    apply Exists.intro
    apply And.intro
    · apply pss_one
      exact (ps_ret (pe_op op_cat (pe_lst (pa_cons (pe_callB (k_len (K := K) rfl) (by rfl) T.n_len PySem.boot_len (pa_cons (pv 0) pa_nil)) pa_nil)) (pe_slice (k_sl_list (K := K) rfl) (pv 0) po_none (po_some pe_int))))
    walk_at "sx"
    refine lenL hA ?_
    refine ⟨sz_ok (by simp), fun z nz1 => ?_⟩
    have ez := Ex.new nz1 (o := .lst [V.int (((ns.map V.int).length : Nat) : Int)])
    refine slL (ex_l ez hA) fun y ny => ?_
    have ey := Ex.new ny (o := .lst (cutV (ns.map V.int) none (some 7)))
    obtain ⟨ms, hms, hml⟩ : ∃ ms : List Int, cutV (ns.map V.int) none (some 7) = ms.map V.int ∧ ms.length ≤ 63 := by
      refine ⟨ns.take 7, ?_, by rw [List.length_take]; omega⟩
      rw [List.map_take]
      unfold cutV
      rw [show (7 : Int) = ((7 : Nat) : Int) from rfl, HT.sIx_nat, HT.sIx_none, List.drop_zero, Nat.sub_zero, List.length_map]
      by_cases c : 7 ≤ ns.length
      · rw [Nat.min_eq_left c]
      · rw [Nat.min_eq_right (by omega), List.take_of_length_le (by rw [List.length_map]; exact Nat.le_refl _), List.take_of_length_le (by rw [List.length_map]; omega)]
    rw [hms] at ey ⊢
    refine catL (ey _ _ upd_same) upd_same (sz_ok (by simp; omega)) fun p np => ?_
    have ep := Ex.new np (o := .lst ([V.int (((ns.map V.int).length : Nat) : Int)] ++ ms.map V.int))
    exact k p ((((ns.map V.int).length : Nat) : Int) :: ms) _ (fresh_back (ez.trans ey) np) ((ez.trans ey).trans ep) upd_same (by rw [List.length_cons]; omega)
def spNames : Sp := fun vs H Q _ => ∃ (b : Addr) (m c : Nat), vs = [.ref b, .int m] ∧ 1 ≤ m ∧ m ≤ 40 ∧ BagAt H b c ∧ c ≤ 100000 ∧ ∀ p ns H', H p = none → Fx b H H' → BagAt H' b (c + 4) → H' p = some (.lst ((ns : List Int).map V.int)) → 1 ≤ ns.length → ns.length ≤ 40 → Pg 40 ns → Q (.ref p) H'
theorem ok_law_names (T : Txt K mg) : FnOk P w K mg base CX0 2 T.f_law_names T.fd_law_names ["_law_bag_here", "_law_most"] spNames := by
  refine T.F_law_names.ok sc_law_names (fun vs H Q E h => ?_) (fun cdv A outer s H vs Q E hr h => ?_)
  · obtain ⟨b, m, c, rfl, _⟩ := h
    rfl
  · obtain ⟨b, m, c, rfl, h1, h2, hB, hc, k⟩ := h
    apply Exists.intro
    apply And.intro
    · apply pss_cons
      · exact (ps_asg (pe_tup (pa_cons (pe_call (ok_law_draw T) (hr.mono (by decide)) (by rfl) T.m_law_draw T.F_law_draw.kp T.b_law_draw .nil pass0 (pa_cons (pv 0) (pa_cons pe_int pa_nil))) (pa_cons (pe_ix (k_ix_list (K := K) rfl) (pe_lst (pa_cons (pe_op op_add pe_int (pe_call (ok_law_draw T) (hr.mono (by decide)) (by rfl) T.m_law_draw T.F_law_draw.kp T.b_law_draw .nil pass0 (pa_cons (pv 0) (pa_cons pe_int pa_nil)))) (pa_cons (pe_op op_add pe_int (pe_call (ok_law_draw T) (hr.mono (by decide)) (by rfl) T.m_law_draw T.F_law_draw.kp T.b_law_draw .nil pass0 (pa_cons (pv 0) (pa_cons (pv 1) pa_nil)))) (pa_cons (pv 1) pa_nil)))) (pe_call (ok_law_draw T) (hr.mono (by decide)) (by rfl) T.m_law_draw T.F_law_draw.kp T.b_law_draw .nil pass0 (pa_cons (pv 0) (pa_cons pe_int pa_nil))) (fun _ _ => rfl)) pa_nil))) (k_tup (K := K) (n := 2) rfl rfl (pgs_cons (pg_name (i := 2) sc_law_names.nd rfl (.inr rfl)) (pgs_cons (pg_name (i := 3) sc_law_names.nd rfl (.inl rfl)) pgs_nil))))
      apply pss_one
      exact (ps_ret (pe_lc (own := [("_law_spot", 4)]) rfl sc_law_names.nd (pi_range1 (by rfl) T.n_range (pa_cons (pe_callB (call_min2 rfl) (by rfl) T.n_min (by decide +kernel) (pa_cons (pv 3) (pa_cons (pv 1) pa_nil))) pa_nil)) (blkOk_by (own := [("_law_spot", 4)]) (N := ["_law_bag_here", "_law_most", "_law_begin", "_law_size", "_law_spot"]) (sc := defScope s_law_names) (by decide +kernel)) (fun _ _ _ _ _ => by exact (pg_name (i := 4) sc_law_names.nd rfl (.inl rfl))) (fun _ _ _ _ _ => by exact pts_nil) (fun _ _ _ _ _ => by exact (pe_op op_modX (pe_op op_add (pv 2) (pe_op op_mulX pe_int (pv 4))) pe_int))))
    refine seq_cut (fun σ' H' => ∃ (s0 : Int) (sz : Nat), σ' = [some (.ref b), some (.int m), some (.int s0), some (.int sz), none] ∧ 0 ≤ s0 ∧ s0 < 40 ∧ 1 ≤ sz ∧ sz ≤ 40 ∧ Fx b H H' ∧ BagAt H' b (c + 4)) (fun N hN => ?_) (fun σ1 H1 hC => ?_)
    · walk_at "sx"
      refine ⟨b, _, _, rfl, by omega, big_of (by omega), hB, by omega, fun r1 H1 r10 r11 f1 b1 => ?_⟩
      refine ⟨b, _, _, rfl, by omega, big_of (by omega), b1, by omega, fun r2 H2 r20 r21 f2 b2 => ?_⟩
      walk_at "sx"
      refine ⟨b, _, _, rfl, by omega, big_of (by omega), b2, by omega, fun r3 H3 r30 r31 f3 b3 => ?_⟩
      walk_at "sx"
      refine ⟨sz_ok (by simp), fun z nz1 => ?_⟩
      have ez := Ex.new nz1 (o := .lst [V.int (1 + r2), V.int (1 + r3), V.int m])
      refine ⟨b, _, _, rfl, by omega, big_of (by omega), b3.ex ez, by omega, fun r4 H4 r40 r41 f4 b4 => ?_⟩
      obtain ⟨s, hs, hat⟩ := pickI (ns := [1 + r2, 1 + r3, (m : Int)]) r40 r41
      simp only [List.mem_cons, List.mem_nil_iff, or_false] at hs
      refine ixL (.inl (.inl (f4 _ _ (b3.apart nz1) upd_same))) hat ?_
      refine ⟨sz_ok (by simp), fun T nT => ?_⟩
      refine g_two upd_same ?_
      have eT := Ex.new nT (o := .tup [V.int r1, V.int s])
      exact hN _ _ ⟨r1, s.toNat, by rw [Int.toNat_of_nonneg (by omega)]; rfl, r10, r11, by omega, by omega, ((((f1.trans f2).trans f3).trans (Fx.of ez)).trans f4).trans (Fx.of eT), b4.ex eT⟩
    obtain ⟨s0, sz, rfl, s1, s2, z1, z2, f1, b1⟩ := hC
    walk_at "sx"
    refine ⟨_, _, ⟨rfl, rfl⟩, ?_⟩
    obtain ⟨N, hN, n1, n2⟩ : ∃ N : Nat, (if (m : Int) < (sz : Int) then (m : Int) else (sz : Int)) = (N : Int) ∧ 1 ≤ N ∧ N ≤ 40 := by
      split
      · exact ⟨m, rfl, by omega, by omega⟩
      · exact ⟨sz, rfl, by omega, by omega⟩
    rw [hN]
    refine ⟨by omega, by omega, fun D nD => ?_⟩
    rw [Int.toNat_natCast]
    refine lc_rng (lo := 0) (n := N) (fun _ => true) (fun i => V.int ((s0 + 7 * (i : Int)) % 40)) nD (by omega) (fun u => rfl) (fun i hi => tyes) (fun i hi _ => ?_) (fun H2 e2 hD => ?_)
    · refine ev_is (ev_op (ev_op (ev_var rfl) (ev_op ev_c (ev_var rfl) (rv_I (.inl (.inl ⟨by omega, by omega⟩)))) rv_I0) ev_c (rv_I (by omega))) ?_
      rw [show (0 : Int) + (i : Int) = (i : Int) by omega]
    · rw [kept_all] at hD
      have er : (List.range N).map (fun i : Nat => V.int ((s0 + 7 * (i : Int)) % 40)) = ((List.range N).map fun i : Nat => (s0 + 7 * (i : Int)) % 40).map V.int := by rw [List.map_map]; rfl
      rw [er] at hD
      refine k D _ _ ?_ (f1.trans (Fx.of e2)) (b1.ex e2) hD (by rw [List.length_map, List.length_range]; exact n1) (by rw [List.length_map, List.length_range]; exact n2) (fun x hx => ?_)
      · exact fx_none f1 nD (b1.apart nD)
      · obtain ⟨i, _, rfl⟩ := List.mem_map.mp hx
        exact ⟨Int.emod_nonneg _ (by decide), Int.emod_lt_of_pos _ (by decide)⟩
/-- drawn visits -/
def spRow : Sp := fun vs H Q _ => ∃ (b a : Addr) (ns : List Int) (m c : Nat), vs = [.ref b, .ref a, .int m] ∧ H a = some (.lst (ns.map V.int)) ∧ a ≠ b ∧ 1 ≤ ns.length ∧ ns.length ≤ 40 ∧ Pg 40 ns ∧ m ≤ 300 ∧ BagAt H b c ∧ c ≤ 100000 ∧ ∀ p L H', H p = none → Fx b H H' → BagAt H' b (c + 400) → H' p = some (.lst ((L : List Int).map V.int)) → L.length ≤ m → Pg 40 L → Q (.ref p) H'
def JRw (H : Hp) (b a : Addr) (ns : List Int) (m st sz c : Nat) (i : Nat) (σ' : L2.St) (H' : Hp) : Prop := ∃ l3 f sp L, σ' = [some (.ref b), some (.ref a), some (.int m), l3, some (.int st), some (.int sz), some (.ref f), some (.int sp)] ∧ 0 ≤ sp ∧ sp < ns.length ∧ H f = none ∧ Fx b H H' ∧ BagAt H' b (c + 3 + i) ∧ H' f = some (.lst ((L : List Int).map V.int)) ∧ L.length = i ∧ Pg 40 L
theorem ok_law_row (T : Txt K mg) : FnOk P w K mg base CX0 3 T.f_law_row T.fd_law_row ["_law_bag_here", "_law_names_here", "_law_most"] spRow := by
  refine T.F_law_row.ok sc_law_row (fun vs H Q E h => ?_) (fun cdv A outer s H vs Q E hr h => ?_)
  · obtain ⟨b, a, ns, m, c, rfl, _⟩ := h
    rfl
  · obtain ⟨b, a, ns, m, c, rfl, hA, nab, n1, n2, np, hm, hB, hc, k⟩ := h
    apply Exists.intro
    apply And.intro
    · apply pss_cons
      · exact (ps_par (i := 4) (j := 5) (by rfl) sc_law_row.nd rfl rfl (by decide) rfl rfl (pa_cons (pe_call (ok_law_draw T) (hr.mono (by decide)) (by rfl) T.m_law_draw T.F_law_draw.kp T.b_law_draw .nil pass0 (pa_cons (pv 0) (pa_cons pe_int pa_nil))) (pa_cons (pe_ix (k_ix_list (K := K) rfl) (pe_lst (pa_cons (pe_call (ok_law_draw T) (hr.mono (by decide)) (by rfl) T.m_law_draw T.F_law_draw.kp T.b_law_draw .nil pass0 (pa_cons (pv 0) (pa_cons (pe_op op_add (pv 2) pe_int) pa_nil))) (pa_cons (pv 2) pa_nil))) (pe_call (ok_law_draw T) (hr.mono (by decide)) (by rfl) T.m_law_draw T.F_law_draw.kp T.b_law_draw .nil pass0 (pa_cons (pv 0) (pa_cons pe_int pa_nil))) (fun _ _ => rfl)) pa_nil)) (by rfl))
      apply pss_cons
      · exact (ps_par (i := 6) (j := 7) (by rfl) sc_law_row.nd rfl rfl (by decide) rfl rfl (pa_cons (pe_lst pa_nil) (pa_cons pe_int pa_nil)) (by rfl))
      apply pss_cons
      · apply ps_for PassesOwn.never rfl
        · exact (pi_range1 (by rfl) T.n_range (pa_cons (pv 5) pa_nil))
        · exact (pg_name (i := 3) sc_law_row.nd rfl (.inl rfl))
        · apply pss_cons
          · apply ps_if
            · exact (pt_cmpR op_eq (pv 4) pe_int (by rfl))
            · apply pss_one
              exact (ps_set (i := 7) sc_law_row.nd rfl (.inl rfl) (pe_call (ok_law_draw T) (hr.mono (by decide)) (by rfl) T.m_law_draw T.F_law_draw.kp T.b_law_draw .nil pass0 (pa_cons (pv 0) (pa_cons (pe_callB (k_len (K := K) rfl) (by rfl) T.n_len PySem.boot_len (pa_cons (pv 1) pa_nil)) pa_nil))))
            · exact pss_nil
          apply pss_cons
          · apply ps_if
            · exact (pt_cmpR op_eq (pv 4) pe_int (by rfl))
            · apply pss_one
              exact (ps_set (i := 7) sc_law_row.nd rfl (.inl rfl) (pe_callB (call_max2 rfl) (by rfl) T.n_max (by decide +kernel) (pa_cons pe_int (pa_cons (pe_callB (call_min2 rfl) (by rfl) T.n_min (by decide +kernel) (pa_cons (pe_op op_sub (pe_callB (k_len (K := K) rfl) (by rfl) T.n_len PySem.boot_len (pa_cons (pv 1) pa_nil)) pe_int) (pa_cons (pe_op op_sub (pe_op op_add (pv 7) pe_int) (pe_op op_mulX pe_int (pe_callTy call_int1 (by rfl) T.n_int (by decide +kernel) (pa_cons (pe_cmpR op_eq (pe_call (ok_law_draw T) (hr.mono (by decide)) (by rfl) T.m_law_draw T.F_law_draw.kp T.b_law_draw .nil pass0 (pa_cons (pv 0) (pa_cons pe_int pa_nil))) pe_int (by rfl)) pa_nil)))) pa_nil))) pa_nil))))
            · exact pss_nil
          apply pss_cons
          · apply ps_if
            · exact (pt_cmpR op_eq (pv 4) pe_int (by rfl))
            · apply pss_one
              exact (ps_set (i := 7) sc_law_row.nd rfl (.inl rfl) (pe_ifExp (pt_cmpR op_eq (pe_op op_modX (pv 3) pe_int) pe_int (by rfl)) (pe_call (ok_law_draw T) (hr.mono (by decide)) (by rfl) T.m_law_draw T.F_law_draw.kp T.b_law_draw .nil pass0 (pa_cons (pv 0) (pa_cons (pe_callB (k_len (K := K) rfl) (by rfl) T.n_len PySem.boot_len (pa_cons (pv 1) pa_nil)) pa_nil))) (pe_call (ok_law_draw T) (hr.mono (by decide)) (by rfl) T.m_law_draw T.F_law_draw.kp T.b_law_draw .nil pass0 (pa_cons (pv 0) (pa_cons (pe_callB (call_min2 rfl) (by rfl) T.n_min (by decide +kernel) (pa_cons pe_int (pa_cons (pe_callB (k_len (K := K) rfl) (by rfl) T.n_len PySem.boot_len (pa_cons (pv 1) pa_nil)) pa_nil))) pa_nil)))))
            · exact pss_nil
          apply pss_one
          exact (ps_expr (k_bm (K := K) rfl (pe_bm PySem.F.plainAttrs_list PySem.F.slot_list_append PySem.F.type_list_append mt_append (pv 6) (pa_cons (pe_ix (k_ix_list (K := K) rfl) (pv 1) (pv 7) (fun _ _ => rfl)) pa_nil))))
      apply pss_one
      exact (ps_ret (pv 6))
    refine seq_cut (fun σ' H' => ∃ (st sz : Nat), σ' = [some (.ref b), some (.ref a), some (.int m), none, some (.int st), some (.int sz), none, none] ∧ sz ≤ m ∧ Fx b H H' ∧ BagAt H' b (c + 3)) (fun N hN => ?_) (fun σ1 H1 hC => ?_)
    · walk_at "sx"
      refine ⟨b, _, _, rfl, by omega, big_of (by omega), hB, by omega, fun r1 H1 r10 r11 f1 b1 => ?_⟩
      walk_at "sx"
      refine ⟨b, _, _, rfl, by omega, big_of (by omega), b1, by omega, fun r2 H2 r20 r21 f2 b2 => ?_⟩
      refine ⟨sz_ok (by simp), fun z nz1 => ?_⟩
      have ez := Ex.new nz1 (o := .lst [V.int r2, V.int m])
      refine ⟨b, _, _, rfl, by omega, big_of (by omega), b2.ex ez, by omega, fun r4 H4 r40 r41 f4 b4 => ?_⟩
      obtain ⟨s, hs, hat⟩ := pickI (ns := [r2, (m : Int)]) r40 r41
      simp only [List.mem_cons, List.mem_nil_iff, or_false] at hs
      refine ixL (.inl (.inl (f4 _ _ (b2.apart nz1) upd_same))) hat ?_
      refine ⟨_, _, ⟨rfl, rfl⟩, ?_⟩
      exact hN _ _ ⟨r1.toNat, s.toNat, by rw [Int.toNat_of_nonneg (by omega), Int.toNat_of_nonneg (by omega)], by omega, ((f1.trans f2).trans (Fx.of ez)).trans f4, b4⟩
    obtain ⟨st, sz, rfl, hsz, f1, b1⟩ := hC
    walk_at "sx"
    refine ⟨sz_ok (by simp), fun f nf => ?_⟩
    have ef := Ex.new nf (o := .lst [])
    refine ⟨_, _, ⟨rfl, rfl⟩, by omega, by omega, ?_⟩
    rw [Int.toNat_natCast]
    have nfb : f ≠ b := b1.apart nf
    have nfH : H f = none := fx_none f1 nf nfb
    refine lg_rng (JRw H b a ns m st sz c) ⟨none, f, 0, [], rfl, by omega, by omega, nfH, f1.trans (Fx.of ef), (b1.ex ef).mono (by omega), upd_same, rfl, pg_nil _⟩ (fun i σ' H' hi hP => ?_) (fun σ' H' hP => ?_)
    · obtain ⟨l3, f, sp, L, rfl, p0, p1, nf, fx, hb, hf, hL, hpg⟩ := hP
      have nfb : f ≠ b := fun e => by subst e; obtain ⟨o, ho⟩ := hB.some; rw [nf] at ho; cases ho
      have hA' := fx _ _ nab hA
      simp only [x_gn, List.set_cons_zero, List.set_cons_succ]
      have stay : ∀ (sp : Int) (H2 : Hp), 0 ≤ sp → sp < ns.length → Fx b H' H2 → BagAt H2 b (c + 3 + i + 1) → 
          ∃ x, atI (ns.map V.int) sp = some (.int x) ∧ JRw H b a ns m st sz c (i + 1) [some (.ref b), some (.ref a), some (.int m), some (.int (0 + (i : Int))), some (.int st), some (.int sz), some (.ref f), some (.int sp)] (upd H2 f (.lst (L.map V.int ++ [V.int x]))) := fun sp H2 s0 s1 f2 b2 => by
        have hx : ns[sp.toNat]? = some ns[sp.toNat] := List.getElem?_eq_getElem (by omega)
        refine ⟨ns[sp.toNat], atI_n (j := sp.toNat) (by omega) (at_ints hx), _, f, sp, L ++ [ns[sp.toNat]], rfl, s0, s1, nf, (fx.trans f2).mut nf, (b2.off nfb).mono (by omega), by rw [upd_same, List.map_append]; rfl, by rw [List.length_append, hL]; rfl, fun y hy => ?_⟩
        rcases List.mem_append.mp hy with h | h
        · exact hpg y h
        · rw [List.mem_singleton.mp h]; exact np.at hx
      refine seq_cut (fun σ' H2 => ∃ sp : Int, σ' = [some (.ref b), some (.ref a), some (.int m), some (.int (0 + (i : Int))), some (.int st), some (.int sz), some (.ref f), some (.int sp)] ∧ 0 ≤ sp ∧ sp < ns.length ∧ ((st ≠ 0 ∧ H2 = H') ∨ (st = 0 ∧ Fx b H' H2 ∧ BagAt H2 b (c + 3 + i + 1)))) (fun N hN => ?_) (fun σ2 H2 hC => ?_)
      · walk_at "sx"
        by_cases c0 : st = 0
        · subst c0
          have z0 : (((0 : Nat) : Int) = 0) := rfl
          rw [if_pos z0]
          refine lenL (.inl (.inl hA')) ?_
          rw [List.length_map]
          refine ⟨b, _, _, rfl, by omega, big_of (by omega), hb, by omega, fun r1 H2 r10 r11 f2 b2 => ?_⟩
          exact hN _ _ ⟨r1, rfl, r10, r11, .inr ⟨rfl, f2, b2⟩⟩
        · rw [if_neg (by omega)]
          exact hN _ _ ⟨sp, rfl, p0, p1, .inl ⟨c0, rfl⟩⟩
      obtain ⟨sp2, rfl, q0, q1, hor⟩ := hC
      refine seq_cut (fun σ' H3 => ∃ sp : Int, σ' = [some (.ref b), some (.ref a), some (.int m), some (.int (0 + (i : Int))), some (.int st), some (.int sz), some (.ref f), some (.int sp)] ∧ 0 ≤ sp ∧ sp < ns.length ∧ ((st ≠ 0 ∧ st ≠ 1 ∧ H3 = H') ∨ ((st = 0 ∨ st = 1) ∧ Fx b H' H3 ∧ BagAt H3 b (c + 3 + i + 1)))) (fun N hN => ?_) (fun σ3 H3 hC => ?_)
      · walk_at "sx"
        by_cases c1 : st = 1
        · subst c1
          have z1 : (((1 : Nat) : Int) = 1) := rfl
          rw [if_pos z1]
          have eH : H2 = H' := by
            rcases hor with ⟨_, h⟩ | ⟨h, _⟩
            · exact h
            · omega
          subst eH
          refine lenL (.inl (.inl hA')) ?_
          rw [List.length_map]
          refine ⟨_, _, rfl, rfl, ?_⟩
          refine ⟨b, _, _, rfl, by omega, big_of (by omega), hb, by omega, fun r1 H4 r10 r11 f2 b2 => ?_⟩
          walk_at "sx"
          refine .inr ⟨.inl (.inl ⟨by omega, by omega⟩), _, _, ⟨rfl, rfl⟩, _, _, ⟨rfl, rfl⟩, ?_⟩
          refine hN _ _ ⟨_, rfl, ?_, ?_, .inr ⟨.inr rfl, f2, b2⟩⟩
          · split <;> omega
          · split <;> split <;> omega
        · rw [if_neg (by omega)]
          refine hN _ _ ⟨sp2, rfl, q0, q1, ?_⟩
          rcases hor with ⟨h1, h2⟩ | ⟨h1, h2, h3⟩
          · exact .inl ⟨h1, c1, h2⟩
          · exact .inr ⟨.inl h1, h2, h3⟩
      obtain ⟨sp3, rfl, q0, q1, hor⟩ := hC
      refine seq_cut (fun σ' H4 => ∃ sp : Int, σ' = [some (.ref b), some (.ref a), some (.int m), some (.int (0 + (i : Int))), some (.int st), some (.int sz), some (.ref f), some (.int sp)] ∧ 0 ≤ sp ∧ sp < ns.length ∧ Fx b H' H4 ∧ BagAt H4 b (c + 3 + i + 1)) (fun N hN => ?_) (fun σ4 H4 hC => ?_)
      · walk_at "sx"
        by_cases c2 : st = 2
        · subst c2
          have z2 : (((2 : Nat) : Int) = 2) := rfl
          rw [if_pos z2]
          have eH : H3 = H' := by
            rcases hor with ⟨_, _, h⟩ | ⟨h, _⟩
            · exact h
            · omega
          subst eH
          refine ⟨by decide, ?_⟩
          by_cases ev : (0 + (i : Int)) % 2 = 0
          · rw [if_pos ev]
            refine lenL (.inl (.inl hA')) ?_
            rw [List.length_map]
            refine ⟨b, _, _, rfl, by omega, big_of (by omega), hb, by omega, fun r1 H4 r10 r11 f2 b2 => ?_⟩
            exact hN _ _ ⟨r1, rfl, r10, r11, f2, b2⟩
          · rw [if_neg ev]
            refine lenL (.inl (.inl hA')) ?_
            rw [List.length_map]
            walk_at "sx"
            refine ⟨_, _, ⟨rfl, rfl⟩, ?_⟩
            refine ⟨b, _, _, rfl, by split <;> omega, big_of (by split <;> omega), hb, by omega, fun r1 H4 r10 r11 f2 b2 => ?_⟩
            exact hN _ _ ⟨r1, rfl, r10, by split at r11 <;> omega, f2, b2⟩
        · rw [if_neg (by omega)]
          rcases hor with ⟨h1, h2, rfl⟩ | ⟨h1, h2, h3⟩
          · exact hN _ _ ⟨sp3, rfl, q0, q1, Fx.refl _ _, hb.mono (by omega)⟩
          · exact hN _ _ ⟨sp3, rfl, q0, q1, h2, h3⟩
      obtain ⟨sp4, rfl, q0, q1, f4, b4⟩ := hC
      obtain ⟨x, hx, J⟩ := stay sp4 H4 q0 q1 f4 b4
      have hf4 := f4 _ _ nfb hf
      walk_at "sx"
      refine ⟨tyL hf4, ?_⟩
      refine ixL (.inl (.inl (f4 _ _ nab hA'))) hx ?_
      exact appL hf4 (BC.sz_lt (by rw [List.length_map]; omega)) J
    · obtain ⟨l3, f, sp, L, rfl, p0, p1, nf, fx, hb, hf, hL, hpg⟩ := hP
      walk_at "sx"
      exact k f L _ nf fx (hb.mono (by omega)) hf (by omega) hpg
end
theorem keys_perm {row : List Int} {qs : List (Int × Int)} (hp : Pg 40 row) (nd : (qs.map (·.1)).Nodup) (g : ∀ x, getI qs x = nx row x) : (qs.map (·.1)).Perm ((exs row).map (·.1)) := by
  rw [List.perm_ext_iff_of_nodup nd (srt_nodup (exs_srt row))]
  intro x
  constructor
  · intro h
    obtain ⟨⟨a, b⟩, hq, rfl⟩ := List.mem_map.mp h
    exact List.mem_map.mpr ⟨(a, b), (mem_exs hp).mpr (by rw [← g]; exact (getI_mem nd).mp hq), rfl⟩
  · intro h
    obtain ⟨⟨a, b⟩, hq, rfl⟩ := List.mem_map.mp h
    exact List.mem_map.mpr ⟨(a, b), (getI_mem nd).mpr (by rw [g]; exact (mem_exs hp).mp hq), rfl⟩
theorem keys_srt {row : List Int} {ys : List Int} (h : ys.Perm ((exs row).map (·.1))) (s : ys.Pairwise (· ≤ ·)) : ys = (exs row).map (·.1) := by
  have nd : ys.Nodup := h.nodup_iff.mpr (srt_nodup (exs_srt row))
  rw [List.nodup_iff_pairwise_ne] at nd
  refine ints_uniq ((s.and nd).imp fun {a b} h => by have := h.1; have := h.2; omega) ?_ (fun q => h.mem_iff)
  rw [List.pairwise_map]
  exact (exs_srt row).imp fun h => h
/-- what stands behind the visits that were read from the back -/
def sf (row : List Int) (i : Nat) : List Int := (row.reverse.take i).reverse
theorem sf_next {row : List Int} {i : Nat} {p : Int} (h : row.reverse[i]? = some p) : sf row (i + 1) = p :: sf row i := by
  unfold sf
  rw [List.take_add_one, h, Option.toList_some, List.reverse_append]
  rfl
theorem sf_all (row : List Int) : sf row row.length = row := by
  unfold sf
  rw [List.take_of_length_le (by rw [List.length_reverse]; exact Nat.le_refl _), List.reverse_reverse]
section
variable {P : Program} {w : World} {K : PySem.W.Frag} {mg : Str → Option Value} {base : Heap}
def spPairsLaw (K : PySem.W.Frag) : Sp := fun vs H Q _ => ∃ (a : Addr) (row : List Int), vs = [.ref a] ∧ SqL K H a (row.map V.int) ∧ row.length ≤ 300 ∧ Pg 40 row ∧ ∀ l ts H', H l = none → Ex H H' → H' l = some (.lst ((ts : List Addr).map V.ref)) → PairsAt K H' l ts (exs row) → Q (.ref l) H'
def JPr (H2 : Hp) (a d : Addr) (row : List Int) (i : Nat) (σ' : L2.St) (H' : Hp) : Prop := ∃ l1 qs, σ' = [some (.ref a), l1, some (.ref d), some (firstV (sf row i))] ∧ Fx d H2 H' ∧ H' d = some (.dK ((qs : List (Int × Int)).map itK)) ∧ (qs.map (·.1)).Nodup ∧ qs.length ≤ i ∧ ∀ x, getI qs x = nx (sf row i) x
theorem ok_law_pairs (T : Txt K mg) : FnOk P w K mg base CX0 1 T.f_law_pairs T.fd_law_pairs ["_law_row_here"] (spPairsLaw K) := by
  refine T.F_law_pairs.ok sc_law_pairs (fun vs H Q E h => ?_) (fun cdv A outer s H vs Q E hr h => ?_)
  · obtain ⟨a, row, rfl, _⟩ := h
    rfl
  · obtain ⟨a, row, rfl, hA, hl, hp, k⟩ := h
    apply Exists.intro
    apply And.intro
    · apply pss_cons
      · exact (ps_asg (pe_tup (pa_cons pe_dnewK (pa_cons pe_non pa_nil))) (k_tup (K := K) (n := 2) rfl rfl (pgs_cons (pg_name (i := 2) sc_law_pairs.nd rfl (.inr rfl)) (pgs_cons (pg_name (i := 3) sc_law_pairs.nd rfl (.inl rfl)) pgs_nil))))
      apply pss_cons
      · apply ps_for PassesOwn.never rfl
        · exact (k_pi_list (K := K) rfl (k_rev (K := K) rfl (pv 0)))
        · exact (pg_name (i := 1) sc_law_pairs.nd rfl (.inl rfl))
        · apply pss_cons
          · apply ps_if
            · exact (pt_cmp (pc_dnotin (hu_of hr) (pv 1) (pv 2)))
            · apply pss_one
              exact (ps_dput (hu_of hr) (pv 2) (pv 1) (pe_ifExp (pt_cmpR op_isN (pv 3) pe_non (by rfl)) (pv 1) (pv 3)) rfl)
            · exact pss_nil
          apply pss_one
          exact (ps_set (i := 3) sc_law_pairs.nd rfl (.inl rfl) (pv 1))
      apply pss_one
      exact (ps_ret (pe_lc (own := [("_law_page_here", 1)]) rfl sc_law_pairs.nd (k_pi_list (K := K) rfl (pe_callB (cr_sortDI rfl) (by rfl) T.n_sorted (by decide +kernel) (pa_cons (pv 2) pa_nil))) (blkOk_by (own := [("_law_page_here", 1)]) (N := ["_law_row_here", "_law_page_here", "_law_found", "_law_later"]) (sc := defScope s_law_pairs) (by decide +kernel)) (fun _ _ _ _ _ => by exact (pg_name (i := 1) sc_law_pairs.nd rfl (.inl rfl))) (fun _ _ _ _ _ => by exact pts_nil) (fun _ _ _ _ _ => by exact (pe_tup (pa_cons (pv 1) (pa_cons (pe_dget (hu_of hr) (pv 2) (pv 1) (fun _ _ => rfl)) pa_nil))))))
    walk_at "sx"
    refine fun d nd => ⟨sz_ok (by omega), fun T nT => ?_⟩
    have e1 := Ex.new nd (o := .dK [])
    have e2 := Ex.new nT (o := .tup [V.ref d, V.non])
    refine g_two upd_same ?_
    have hd0 := e2 _ _ (upd_same (H := H) (a := d) (o := .dK []))
    have hA1 := ex_l (e1.trans e2) hA
    have E1 := e1.trans e2
    have ndT : ∀ b o, H b = some o → b ≠ d := fun b o h => ne_of_none h nd
    generalize (upd (upd H d (.dK [])) T (.tup [V.ref d, V.non])) = H1 at hd0 hA1 E1 ⊢
    walk_at "sx"
    refine ⟨_, hA1, fun c nc => ?_⟩
    rw [← List.map_reverse]
    have ec := Ex.new nc (o := .lst (row.reverse.map V.int))
    have hdc := ec _ _ hd0
    have ncd : c ≠ d := Ne.symm (ne_of_none hd0 nc)
    refine ⟨⟨_, .inl (.inl upd_same)⟩, ?_⟩
    have hcc : (upd H1 c (.lst (row.reverse.map V.int))) c = some (.lst (row.reverse.map V.int)) := upd_same
    have E2 := E1.trans ec
    generalize (upd H1 c (.lst (row.reverse.map V.int))) = H2 at hdc hcc E2 ⊢
    refine lg_list (xs := row.reverse.map V.int) (JPr H2 a d row) ⟨none, [], rfl, Fx.refl _ _, hdc, List.nodup_nil, Nat.le_refl _, fun x => rfl⟩ (fun i σ' H' _ hP => by obtain ⟨_, _, _, fx, _⟩ := hP; exact .inl (.inl (fx _ _ ncd hcc))) (fun i x σ' H' hx hP => ?_) (fun σ' H' hP => ?_)
    · obtain ⟨l1, qs, rfl, fx, hd, ndk, hq, hg⟩ := hP
      obtain ⟨p, hp1, rfl⟩ := ints_at hx
      have hi := (List.getElem?_eq_some_iff.mp hp1).1
      rw [List.length_reverse] at hi
      have hsf := sf_next hp1
      walk_at "sx"
      refine ⟨_, DGet.k (k := Sum.inl p) hd, ?_⟩
      rw [getI_val, hg]
      cases c0 : nx (sf row i) p with
      | some y =>
        simp only [Option.map_some, Option.isSome_some, Bool.not_true]
        walk_at "sx"
        refine ⟨_, qs, by rw [hsf]; rfl, fx, hd, ndk, by omega, fun x => ?_⟩
        rw [hg, hsf]
        by_cases cx : x = p
        · rw [cx, c0, nx_some c0]
        · cases c1 : nx (sf row i) x with
          | some z => rw [nx_some c1]
          | none => rw [nx_none c1, if_neg (fun z => cx z.symm)]
      | none =>
        simp only [Option.map_none, Option.isSome_none, Bool.not_false]
        have fin : ∀ y : Int, y = (sf row i).headD p → JPr H2 a d row (i + 1) [some (.ref a), some (.int p), some (.ref d), some (.int p)] (upd H' d (.dK (putK (qs.map itK) (Sum.inl p) (.int y)))) := fun y hy => by
          refine ⟨_, putI qs p y, by rw [hsf]; rfl, fx.trans Fx.put, by rw [upd_same, putI_put], putI_nodup ndk, Nat.le_trans (putI_len _ _ _) (by omega), fun x => ?_⟩
          rw [getI_put, hsf]
          by_cases cx : x = p
          · rw [if_pos cx, cx, nx_none c0, if_pos rfl, hy]
          · rw [if_neg cx, hg]
            cases c1 : nx (sf row i) x with
            | some z => rw [nx_some c1]
            | none => rw [nx_none c1, if_neg (fun z => cx z.symm)]
        walk_at "sx"
        cases c2 : sf row i with
        | nil =>
          simp only [firstV]
          walk_at "sx"
          refine ⟨_, DPut.k (k := Sum.inl p) hd (BC.sz_lt (by rw [List.length_map]; omega)), ?_⟩
          exact fin p (by rw [c2]; rfl)
        | cons y ys =>
          simp only [firstV]
          walk_at "sx"
          refine ⟨_, DPut.k (k := Sum.inl p) hd (BC.sz_lt (by rw [List.length_map]; omega)), ?_⟩
          exact fin y (by rw [c2]; rfl)
    · obtain ⟨l1, qs, rfl, fx, hd, ndk, hq, hg⟩ := hP
      rw [List.length_map, List.length_reverse, sf_all] at hg
      rw [List.length_map, List.length_reverse] at hq
      have hkp := keys_perm hp ndk hg
      have h40 := exs_len40 row
      have hql : (qs.map (·.1)).length = ((exs row).map (·.1)).length := hkp.length_eq
      rw [List.length_map, List.length_map] at hql
      walk_at "sx"
      refine ⟨d, qs.map itK, qs.map (·.1), rfl, .inl hd, by rw [List.map_map, List.map_map]; rfl, by rw [List.length_map]; omega, fun ys p hperm hsrt np => ?_⟩
      have hys := keys_srt (hperm.trans hkp) hsrt
      subst hys
      have ep := Ex.new np (o := .lst (((exs row).map (·.1)).map V.int))
      have hd1 := ep _ _ hd
      refine ⟨p, rfl, ⟨_, .inl (.inl upd_same)⟩, fun D nD => ?_⟩
      have hpp : (upd H' p (.lst (((exs row).map (·.1)).map V.int))) p = some (.lst (((exs row).map (·.1)).map V.int)) := upd_same
      have E3 : Ex H (upd H' p (.lst (((exs row).map (·.1)).map V.int))) := ((Fx.of E2).trans fx).ex nd |>.trans ep
      generalize (upd H' p (.lst (((exs row).map (·.1)).map V.int))) = H3 at hd1 hpp E3 nD ⊢
      refine lc_listE (xs := ((exs row).map (·.1)).map V.int) (fun i H' => Ex H3 H' ∧ ∃ ts, H' D = some (.lst ((ts : List Addr).map V.ref)) ∧ ts.length = i ∧ ∀ j t, ts[j]? = some t → PairAt H' t ((exs row).getD j (0, 0))) ⟨Ex.new nD, [], upd_same, rfl, fun j t h => by simp at h⟩ (fun i H' _ hP => .inl (.inl (hP.1 _ _ hpp))) (fun i x H' hx hP => ?_) (fun H' hP => ?_)
      · obtain ⟨e, ts, hD, hl, hts⟩ := hP
        obtain ⟨q, hq1, rfl⟩ := ints_at hx
        obtain ⟨g, hg1, rfl⟩ : ∃ g, (exs row)[i]? = some g ∧ q = g.1 := by
          rw [List.getElem?_map] at hq1
          cases c : (exs row)[i]? with
          | none => rw [c] at hq1; cases hq1
          | some g => rw [c] at hq1; cases hq1; exact ⟨g, rfl, rfl⟩
        have hi := (List.getElem?_eq_some_iff.mp hg1).1
        have hgx : getI qs g.1 = some g.2 := by rw [hg]; exact (mem_exs hp).mp (List.mem_of_getElem? hg1)
        walk_at "sx"
        refine ⟨rfl, ?_⟩
        simp only [wipe, List.set_cons_zero, List.set_cons_succ, List.map_cons, List.map_nil, List.foldl_cons, List.foldl_nil]
        walk_at "sx"
        refine ⟨_, .inl ⟨_, Sum.inl g.1, .inl (e _ _ hd1), rfl, by rw [getI_val, hgx]; rfl⟩, ?_⟩
        refine ⟨sz_ok (by omega), fun T nT => ?_⟩
        have eT := Ex.new nT (o := .tup [V.int g.1, V.int g.2])
        have nTD : T ≠ D := Ne.symm (ne_of_none hD nT)
        refine ⟨_, eT _ _ hD, BC.sz_lt (by rw [List.length_map]; omega), (e.trans eT).mut nD, ts ++ [T], by rw [upd_same, List.map_append]; rfl, by rw [List.length_append, hl]; rfl, fun j t hj => ?_⟩
        by_cases cj : j < ts.length
        · rw [List.getElem?_append_left cj] at hj
          have h1 := hts j t hj
          have h2 : (upd H' T (.tup [V.int g.1, V.int g.2])) t = _ := eT _ _ (pr_ev h1)
          unfold PairAt
          rw [upd_ne (ne_of (pr_ev h1) hD (by intro z; cases z)), h2]
        · obtain ⟨hjl, hjt⟩ := List.getElem?_eq_some_iff.mp hj
          rw [List.length_append, List.length_singleton] at hjl
          have ej : j = ts.length := by omega
          subst ej
          rw [List.getElem?_append_right (Nat.le_refl _), Nat.sub_self] at hj
          have : T = t := by simpa using hj
          subst this
          unfold PairAt
          rw [upd_ne nTD, upd_same, hl, List.getD_eq_getElem?_getD, hg1]
          rfl
      · obtain ⟨e, ts, hD, hl, hts⟩ := hP
        rw [List.length_map, List.length_map] at hl
        exact k D ts H' (fresh_back E3 nD) (E3.trans e) hD ⟨.inl (.inl hD), hl, hts⟩
end
section
variable {P : Program} {w : World} {K : PySem.W.Frag} {mg : Str → Option Value} {base : Heap}
def spPageL (K : PySem.W.Frag) : Sp := fun vs H Q _ => ∃ v, vs = [v] ∧ Kd K H v ∧ Q (.bl (inR 0 39 v)) H
theorem ok_law_is_page (T : Txt K mg) : FnOk P w K mg base CX0 1 T.f_law_is_page T.fd_law_is_page ["_law_thing"] (spPageL K) := by
  refine T.F_law_is_page.ok sc_law_is_page (fun vs H Q E h => ?_) (fun cdv A outer s H vs Q E hr h => ?_)
  · obtain ⟨v, rfl, _⟩ := h
    rfl
  · obtain ⟨v, rfl, kd, k⟩ := h
    apply Exists.intro
    apply And.intro
    · apply pss_one
      exact (ps_ret (pe_and (pe_callB (k_isi (K := K) rfl) (by rfl) T.n_isinstance (by decide +kernel) (pa_cons (pv 0) (pa_cons (pe_bltn (v := .ty "int") (by rfl) T.n_int (by decide +kernel) rfl) pa_nil))) (pe_and (pe_not (pe_callB (k_isi (K := K) rfl) (by rfl) T.n_isinstance (by decide +kernel) (pa_cons (pv 0) (pa_cons (pe_bltn (v := .ty "bool") (by rfl) T.n_bool (by decide +kernel) rfl) pa_nil)))) (pe_one (pe_chain op_le op_lt pe_int (pv 0) pe_int)))))
    walk_at "sx"
    cases kd with
    | int i =>
      refine isi_int (b := true) (by decide +kernel) ?_
      walk_at "sx"
      refine isi_int (b := false) (by decide +kernel) ?_
      have k' : Q (.bl (decide (0 ≤ i) && decide (i ≤ 39))) H := k
      walk_at "sx"
      by_cases h1 : 0 ≤ i
      · by_cases h2 : i ≤ 39
        · have h3 : i < 40 := by omega
          simpa [h1, h2, h3] using k'
        · have h3 : ¬ i < 40 := by omega
          simpa [h1, h2, h3] using k'
      · simpa [h1] using k'
    | bl b =>
      refine ⟨.bl b, .ty "int", .type "bool", .type "int", true, rfl, .ty "int", .base (.bl b), kit_ty (by decide +kernel), ?_⟩
      walk_at "sx"
      refine ⟨.bl b, .ty "bool", .type "bool", .type "bool", true, rfl, .ty "bool", .base (.bl b), kit_ty (by decide +kernel), ?_⟩
      walk_at "sx"
      exact k
    | odd ty n =>
      refine ⟨v, .ty "int", _, .type "int", false, rfl, .ty "int", ty, n, ?_⟩
      have e : inR 0 39 v = false := by
        cases v with
        | int i =>
          cases ty with
          | base h => cases h; exact absurd n (by rw [kit_ty (r := true) (by decide +kernel)]; simp)
        | _ => rfl
      rw [e] at k
      walk_at "sx"
      exact k
theorem lc_tup {σ : L2.St} {vs : List Nat} {tt : TT} {te : TE} {H1 : Hp} {Dl : Addr} {Q : VK} {a : Addr} {xs : List V} {j : Nat} (keep : Nat → Bool) (f : Nat → V) (hx : SqT K H1 a xs) (hD : H1 Dl = none) (hn : xs.length ≤ 100000)
    (hw : ∀ u : V, wipe ((wipe σ vs).set j (some u)) vs = wipe σ vs)
    (ht : ∀ i x, xs[i]? = some x → Evl.EvT tt ((wipe σ vs).set j (some x)) H1 (keep i))
    (he : ∀ i x, xs[i]? = some x → keep i = true → Evl.Ev te ((wipe σ vs).set j (some x)) H1 (f i))
    (hd : ∀ H', Evl.Ex H1 H' → H' Dl = some (.lst (kept xs.length keep f)) → Q (.ref Dl) H') : LcG (Itt K a) (gName j) tt te vs σ Dl H1 Q := by
  refine lc_pure xs.length (fun i => (wipe σ vs).set j (some (xs.getD i .non))) keep f hD hn (fun H' e => ⟨xs, Evl.ex_t e hx, Nat.le_refl _⟩) (fun i H' hi e => ⟨xs, xs[i], Evl.ex_t e hx, List.getElem?_eq_getElem hi⟩)
    (fun i H' x H'' QG hi e y q => ?_) (fun i hi => hw _) (fun i hi => ht i _ (by rw [List.getD_eq_getElem?_getD, List.getElem?_eq_getElem hi]; rfl)) (fun i hi => he i _ (by rw [List.getD_eq_getElem?_getD, List.getElem?_eq_getElem hi]; rfl)) hd
  obtain ⟨rfl, hf⟩ := y
  have hv := hf xs (Evl.ex_t e hx)
  have e1 : xs.getD i .non = x := by rw [List.getD_eq_getElem?_getD, hv]; rfl
  show QG _ _
  rw [← e1]
  exact q (Evl.Ex.refl _)
theorem ones_nil {n : Nat} {k : Nat → Bool} {fr : List Int} (h1 : ∀ x ∈ fr, ∃ i, i < n ∧ k i = true ∧ x = (1 : Int)) (h2 : fr = [] → ∀ i, i < n → k i = false) : decide (fr = []) = (List.range n).all fun i => !k i := by
  cases c : (List.range n).all fun i => !k i with
  | true =>
    rw [List.all_eq_true] at c
    refine decide_eq_true ?_
    cases fr with
    | nil => rfl
    | cons x r =>
      obtain ⟨i, a, b, _⟩ := h1 x List.mem_cons_self
      have := c i (List.mem_range.mpr a)
      rw [b] at this
      cases this
  | false =>
    refine decide_eq_false fun e => ?_
    rw [List.all_eq_false] at c
    obtain ⟨i, hi, hk⟩ := c
    exact hk (by rw [h2 e i (List.mem_range.mp hi)]; rfl)
theorem exits_p {ds : List PyData} (c : ds.all pairD = true) (p : Int) : (exitsD (.list ds) && decide (p ∈ pagesD (.list ds))) = (dueQ (ds.map qD) && decide (p ∈ namesOf (ds.map qD))) := by
  show (decide (ds ≠ []) && ds.all pairD && okQ (ds.map qD) && decide (p ∈ namesOf (ds.map qD))) = _
  rw [c, ok_due]
  cases ds with
  | nil => rfl
  | cons d ds => rw [decide_eq_true (List.cons_ne_nil _ _)]; rfl
def spDue (K : PySem.W.Frag) : Sp := fun vs H Q _ => ∃ (v1 v2 : V) (d1 d2 : PyData), vs = [v1, v2] ∧ ArgX H v1 d1 ∧ ArgX H v2 d2 ∧ LenX d2 ∧ ∀ H', Ex H H' → Q (.bl (effD d1 d2)) H'
theorem ok_law_due (T : Txt K mg) : FnOk P w K mg base CX0 3 T.f_law_due T.fd_law_due ["_law_begin", "_law_pairs_here"] (spDue K) := by
  refine T.F_law_due.ok sc_law_due (fun vs H Q E h => ?_) (fun cdv A outer s H vs Q E hr h => ?_)
  · obtain ⟨v1, v2, d1, d2, rfl, _⟩ := h
    rfl
  · obtain ⟨v1, v2, d1, d2, rfl, h1, h2, hlen, k⟩ := h
    apply Exists.intro
    apply And.intro
    · apply pss_cons
      · apply ps_if
        · exact (pt_cmpR op_isN (pv 0) pe_non (by rfl))
        · apply pss_one
          exact (ps_ret (pe_and (pe_callB (k_isi (K := K) rfl) (by rfl) T.n_isinstance (by decide +kernel) (pa_cons (pv 1) (pa_cons (pe_bltn (v := .ty "list") (by rfl) T.n_list (by decide +kernel) rfl) pa_nil))) (pe_one (pe_cmpR (k_eqD (K := K) rfl hr.units) (pv 1) (pe_lst pa_nil) (by rfl)))))
        · exact pss_nil
      apply pss_cons
      · apply ps_if
        · exact (PW.pt (pw_or (pt_not (pt_val (pe_call (ok_law_is_page T) (hr.mono (by decide)) (by rfl) T.m_law_is_page T.F_law_is_page.kp T.b_law_is_page .nil pass0 (pa_cons (pv 0) pa_nil)))) (pw_or1 (pt_not (pt_val (pe_callB (k_isi (K := K) rfl) (by rfl) T.n_isinstance (by decide +kernel) (pa_cons (pv 1) (pa_cons (pe_bltn (v := .ty "list") (by rfl) T.n_list (by decide +kernel) rfl) pa_nil))))))))
        · apply pss_one
          exact (ps_ret pe_bl)
        · exact pss_nil
      apply pss_cons
      · apply ps_for PassesOwn.never rfl
        · exact (k_pi_list (K := K) rfl (pv 1))
        · exact (pg_name (i := 2) sc_law_due.nd rfl (.inl rfl))
        · apply pss_one
          apply ps_if
          · exact (PW.pt (pw_or (pt_not (pt_val (pe_callB (k_isi (K := K) rfl) (by rfl) T.n_isinstance (by decide +kernel) (pa_cons (pv 2) (pa_cons (pe_bltn (v := .ty "tuple") (by rfl) T.n_tuple (by decide +kernel) rfl) pa_nil))))) (pw_or (pt_cmpR op_ne (pe_callB (k_len (K := K) rfl) (by rfl) T.n_len PySem.boot_len (pa_cons (pv 2) pa_nil)) pe_int (by rfl)) (pw_or1 (pt_cmpR (k_neD (K := K) rfl hr.units) (pe_lc (own := [("_law_one", 9)]) rfl sc_law_due.nd (k_pi_tup (K := K) rfl (pv 2)) (blkOk_by (own := [("_law_one", 9)]) (N := ["_law_begin", "_law_pairs_here", "_law_pair", "_law_names_here", "_law_way", "_law_page_here", "_law_spot", "_law_step", "_law_out", "_law_one"]) (sc := defScope s_law_due) (by decide +kernel)) (fun _ _ _ _ _ => by exact (pg_name (i := 9) sc_law_due.nd rfl (.inl rfl))) (fun _ _ _ _ _ => by exact (pts_one (pt_not (pt_val (pe_call (ok_law_is_page T) (hr.mono (by decide)) (by rfl) T.m_law_is_page T.F_law_is_page.kp T.b_law_is_page .nil pass0 (pa_cons (pv 9) pa_nil)))))) (fun _ _ _ _ _ => by exact pe_int)) (pe_lst pa_nil) (by rfl))))))
          · apply pss_one
            exact (ps_ret pe_bl)
          · exact pss_nil
      apply pss_cons
      · exact (ps_set (i := 3) sc_law_due.nd rfl (.inr rfl) (pe_lc (own := [("_law_page_here", 5), ("_law_out", 8)]) rfl sc_law_due.nd (k_pi_list (K := K) rfl (pv 1)) (blkOk_by (own := [("_law_page_here", 5), ("_law_out", 8)]) (N := ["_law_begin", "_law_pairs_here", "_law_pair", "_law_names_here", "_law_way", "_law_page_here", "_law_spot", "_law_step", "_law_out", "_law_one"]) (sc := defScope s_law_due) (by decide +kernel)) (fun _ _ _ _ _ => by exact (k_tup (K := K) (n := 2) rfl rfl (pgs_cons (pg_name (i := 5) sc_law_due.nd rfl (.inl rfl)) (pgs_cons (pg_name (i := 8) sc_law_due.nd rfl (.inl rfl)) pgs_nil)))) (fun _ _ _ _ _ => by exact pts_nil) (fun _ _ _ _ _ => by exact (pv 5))))
      apply pss_cons
      · apply ps_if
        · exact (PW.pt (pw_or (pt_cmpR (k_neD (K := K) rfl hr.units) (pv 3) (k_sortSetB (K := K) rfl (by rfl) T.n_sorted (by rfl) T.n_set (pv 3)) (by rfl)) (pw_or1 (pt_cmpR (k_notIn (K := K) rfl) (pv 0) (pv 3) (by rfl)))))
        · apply pss_one
          exact (ps_ret pe_bl)
        · exact pss_nil
      apply pss_cons
      · apply ps_if
        · exact (pt_cmpR (k_neD (K := K) rfl hr.units) (pe_lc (own := [("_law_page_here", 5), ("_law_out", 8)]) rfl sc_law_due.nd (k_pi_list (K := K) rfl (pv 1)) (blkOk_by (own := [("_law_page_here", 5), ("_law_out", 8)]) (N := ["_law_begin", "_law_pairs_here", "_law_pair", "_law_names_here", "_law_way", "_law_page_here", "_law_spot", "_law_step", "_law_out", "_law_one"]) (sc := defScope s_law_due) (by decide +kernel)) (fun _ _ _ _ _ => by exact (k_tup (K := K) (n := 2) rfl rfl (pgs_cons (pg_name (i := 5) sc_law_due.nd rfl (.inl rfl)) (pgs_cons (pg_name (i := 8) sc_law_due.nd rfl (.inl rfl)) pgs_nil)))) (fun _ _ _ _ _ => by exact (pts_one (pt_cmpR (k_notIn (K := K) rfl) (pv 8) (pv 3) (by rfl)))) (fun _ _ _ _ _ => by exact pe_int)) (pe_lst pa_nil) (by rfl))
        · apply pss_one
          exact (ps_ret pe_bl)
        · exact pss_nil
      apply pss_cons
      · apply ps_if
        · exact (pt_cmpR op_ne (pe_callB (k_len (K := K) rfl) (by rfl) T.n_len PySem.boot_len (pa_cons (pe_lc (own := [("_law_page_here", 5), ("_law_out", 8)]) rfl sc_law_due.nd (k_pi_list (K := K) rfl (pv 1)) (blkOk_by (own := [("_law_page_here", 5), ("_law_out", 8)]) (N := ["_law_begin", "_law_pairs_here", "_law_pair", "_law_names_here", "_law_way", "_law_page_here", "_law_spot", "_law_step", "_law_out", "_law_one"]) (sc := defScope s_law_due) (by decide +kernel)) (fun _ _ _ _ _ => by exact (k_tup (K := K) (n := 2) rfl rfl (pgs_cons (pg_name (i := 5) sc_law_due.nd rfl (.inl rfl)) (pgs_cons (pg_name (i := 8) sc_law_due.nd rfl (.inl rfl)) pgs_nil)))) (fun _ _ _ _ _ => by exact (pts_one (pt_cmpR op_eq (pv 5) (pv 8) (by rfl)))) (fun _ _ _ _ _ => by exact pe_int)) pa_nil)) pe_int (by rfl))
        · apply pss_one
          exact (ps_ret pe_bl)
        · exact pss_nil
      apply pss_cons
      · exact (ps_set (i := 4) sc_law_due.nd rfl (.inl rfl) (pe_callTy (k_dictP (K := K) rfl rfl) (by rfl) T.n_dict (by decide +kernel) (pa_cons (pv 1) pa_nil)))
      apply pss_cons
      · apply ps_for PassesOwn.never rfl
        · exact (k_pi_list (K := K) rfl (pv 3))
        · exact (pg_name (i := 5) sc_law_due.nd rfl (.inl rfl))
        · apply pss_cons
          · exact (ps_set (i := 6) sc_law_due.nd rfl (.inl rfl) (pv 5))
          apply pss_cons
          · apply ps_for PassesOwn.never rfl
            · exact (pi_range1 (by rfl) T.n_range (pa_cons (pe_callB (k_len (K := K) rfl) (by rfl) T.n_len PySem.boot_len (pa_cons (pv 3) pa_nil)) pa_nil))
            · exact (pg_name (i := 7) sc_law_due.nd rfl (.inl rfl))
            · apply pss_one
              exact (ps_set (i := 6) sc_law_due.nd rfl (.inl rfl) (pe_dget (hu_of hr) (pv 4) (pv 6) (fun _ _ => rfl)))
          apply pss_one
          apply ps_if
          · exact (pt_cmpR op_ne (pe_dget (hu_of hr) (pv 4) (pv 6) (fun _ _ => rfl)) (pv 6) (by rfl))
          · apply pss_one
            exact (ps_ret pe_bl)
          · exact pss_nil
      apply pss_one
      exact (ps_ret pe_bl)
    refine seq_cut (fun σ' H' => σ' = [some v1, some v2, none, none, none, none, none, none, none, none] ∧ H' = H ∧ d1 ≠ .none) (fun N hN => ?_) (fun σ1 H1 hC => ?_)
    · by_cases n : d1 = .none
      · subst n
        have hv : v1 = .non := by
          rcases h1 with ⟨hd, _⟩ | ⟨a, _, _, e⟩
          · cases hd; rfl
          · cases e
        subst hv
        walk_at "sx"
        rcases h2 with ⟨hd, hsh⟩ | ⟨a, rfl, ha, rfl⟩
        · cases hd with
          | non => exact isi_x (b := false) (.base .non) (by decide +kernel) (by walk_at "sx"; exact k _ (Ex.refl _))
          | bl b => exact isi_x (b := false) (.base (.bl b)) (by decide +kernel) (by walk_at "sx"; exact k _ (Ex.refl _))
          | int i => exact isi_x (b := false) (.base (.int i)) (by decide +kernel) (by walk_at "sx"; exact k _ (Ex.refl _))
          | str y => exact isi_x (b := false) (.base (.str y)) (by decide +kernel) (by walk_at "sx"; exact k _ (Ex.refl _))
          | tup g1 g2 => exact isi_x (b := false) (tyx_t (.inl (.inl g1))) (by decide +kernel) (by walk_at "sx"; exact k _ (Ex.refl _))
          | @lst a xs ds hA hx =>
            refine isi_x (b := true) (.base (.lst hA)) (by decide +kernel) ?_
            walk_at "sx"
            refine ⟨sz_ok (by omega), fun z nz1 => ?_⟩
            have ez := Ex.new nz1 (o := .lst [])
            refine ⟨_, .list [], Dx.dp _ _ (Dx.lst (ez _ _ hA) (DxAll.ex ez _ _ hx)), .lst (.inl (.inl upd_same)) .nil, hsh, rfl, ?_⟩
            have ee : PyData.eqv (.list ds) (.list []) = decide (ds = []) := by
              cases ds with
              | nil => rfl
              | cons q qs => simp [PyData.eqv, PyData.eqvAll]
            rw [ee]
            exact k _ ez
        · exact isi_x (b := false) (.base (.dK ha)) (by decide +kernel) (by walk_at "sx"; exact k _ (Ex.refl _))
      · have hv : v1 ≠ .non := fun e => by
          subst e
          rcases h1 with ⟨hd, _⟩ | ⟨a, e, _, _⟩
          · cases hd; exact n rfl
          · cases e
        walk_at "sx"
        rw [if_neg hv]
        exact hN _ _ ⟨rfl, rfl, n⟩
    obtain ⟨rfl, rfl, n1⟩ := hC
    rw [eff_other n1] at k
    walk_at "sx"
    refine ⟨v1, rfl, de_kd h1.de, ?_⟩
    rw [inR_inD (h1.de (K := K))]
    cases c1 : inD 0 39 d1 with
    | false =>
      rw [c1] at k
      walk_at "sx"
      exact k _ (Ex.refl _)
    | true =>
      rw [c1] at k
      obtain ⟨p, rfl, p0, p1⟩ := in_num c1
      have hvp : v1 = .int p := by
        rcases h1 with ⟨hd, _⟩ | ⟨a, _, _, e⟩
        · cases hd; rfl
        · cases e
      subst hvp
      have k0 : exitsD d2 = false → ∀ H', Ex H1 H' → Q (.bl false) H' := fun e H' e' => by
        have := k H' e'
        rw [e] at this
        exact this
      walk_at "sx"
      rcases h2 with ⟨hd, hsh⟩ | ⟨a, rfl, ha, rfl⟩
      · cases hd with
        | non => exact isi_x (b := false) (.base .non) (by decide +kernel) (by walk_at "sx"; exact k0 rfl _ (Ex.refl _))
        | bl b => exact isi_x (b := false) (.base (.bl b)) (by decide +kernel) (by walk_at "sx"; exact k0 rfl _ (Ex.refl _))
        | int i => exact isi_x (b := false) (.base (.int i)) (by decide +kernel) (by walk_at "sx"; exact k0 rfl _ (Ex.refl _))
        | str y => exact isi_x (b := false) (.base (.str y)) (by decide +kernel) (by walk_at "sx"; exact k0 rfl _ (Ex.refl _))
        | tup g1 g2 => exact isi_x (b := false) (tyx_t (.inl (.inl g1))) (by decide +kernel) (by walk_at "sx"; exact k0 rfl _ (Ex.refl _))
        | @lst a xs ds hA hx =>
          have hlen := hlen ds rfl
          have hxl := hx.len
          refine isi_x (b := true) (.base (.lst hA)) (by decide +kernel) ?_
          walk_at "sx"
          refine ⟨⟨_, .inl (.inl hA)⟩, ?_⟩
          have kp : ds.all pairD = false → ∀ H', Ex H1 H' → Q (.bl false) H' := fun e => k0 (by show (decide (ds ≠ []) && ds.all pairD && okQ (ds.map qD)) = false; rw [e, Bool.and_false, Bool.false_and])
          refine lg_list (xs := xs) (fun i σ' H' => ∃ l2, σ' = [some (.int p), some (.ref a), l2, none, none, none, none, none, none, none] ∧ Ex H1 H' ∧ ∀ j, j < i → pairD (ds.getD j .none) = true) ⟨none, rfl, Ex.refl _, fun j hj => by omega⟩ (fun i σ' H' _ hP => by obtain ⟨_, _, e, _⟩ := hP; exact .inl (.inl (e _ _ hA))) (fun i x σ' H' hxi hP => ?_) (fun σ' H' hP => ?_)
          · obtain ⟨l2, rfl, e, hj⟩ := hP
            obtain ⟨d, hd, hdx0⟩ := hx.at hxi
            have hdx := Dx.ex e _ _ hdx0
            have hdi : ds.getD i .none = d := by rw [List.getD_eq_getElem?_getD, hd]; rfl
            have bad : pairD d = false → ∀ H2, Ex H' H2 → Q (.bl false) H2 := fun c H2 e2 => kp (by
              cases c2 : ds.all pairD with
              | false => rfl
              | true =>
                have := List.all_eq_true.mp c2 d (List.mem_of_getElem? hd)
                rw [c] at this
                cases this) _ (e.trans e2)
            have good : pairD d = true → ∀ j, j < i + 1 → pairD (ds.getD j .none) = true := fun c j hj2 => by
              by_cases e : j = i
              · rw [e, hdi]; exact c
              · exact hj j (by omega)
            walk_at "sx"
            cases hdx with
            | non => exact isi_x (b := false) (.base .non) (by decide +kernel) (by walk_at "sx"; exact bad rfl _ (Ex.refl _))
            | bl b => exact isi_x (b := false) (.base (.bl b)) (by decide +kernel) (by walk_at "sx"; exact bad rfl _ (Ex.refl _))
            | int i => exact isi_x (b := false) (.base (.int i)) (by decide +kernel) (by walk_at "sx"; exact bad rfl _ (Ex.refl _))
            | str y => exact isi_x (b := false) (.base (.str y)) (by decide +kernel) (by walk_at "sx"; exact bad rfl _ (Ex.refl _))
            | lst g1 g2 => exact isi_x (b := false) (.base (.lst g1)) (by decide +kernel) (by walk_at "sx"; exact bad rfl _ (Ex.refl _))
            | @tup t ys es g1 g2 =>
              have hyl := g2.len
              refine isi_x (b := true) (tyx_t (.inl (.inl g1))) (by decide +kernel) ?_
              walk_at "sx"
              refine lenT (.inl (.inl g1)) ?_
              refine x_neI.mpr ⟨_, rfl, ?_⟩
              by_cases cl : ys.length = 2
              · have cl' : ((ys.length : Nat) : Int) = 2 := by rw [cl]; rfl
                rw [decide_eq_true cl', if_neg (by decide)]
                refine ⟨⟨_, .inl (.inl g1)⟩, fun D nD => ?_⟩
                refine lc_tup (xs := ys) (fun j => !inD 0 39 (es.getD j .none)) (fun _ => V.int 1) (.inl (.inl g1)) nD (by omega) (fun u => rfl) (fun j y hy => ?_) (fun j y _ _ => ev_c) (fun H2 e2 hD => ?_)
                · obtain ⟨d0, hd0, hdx0⟩ := g2.at hy
                  rw [List.getD_eq_getElem?_getD, hd0]
                  intro H3 e3 R hR
                  walk_at "sx"
                  refine ⟨y, rfl, y, rfl, de_kd (Dx.de _ _ (Dx.ex e3 _ _ hdx0)), ?_⟩
                  rw [inR_inD (Dx.de (K := K) _ _ hdx0)]
                  exact ⟨_, rfl, hR _ (Ex.refl _)⟩
                · obtain ⟨fr, q1, q2, q3⟩ := kept_ints ys.length (fun j => !inD 0 39 (es.getD j .none)) (fun _ => 1)
                  rw [q1] at hD
                  refine ⟨sz_ok (by omega), fun z nz1 => ?_⟩
                  have ez := Ex.new nz1 (o := .lst [])
                  refine neInts (ns := fr) (ms := []) (.inl (.inl (ez _ _ hD))) (.inl (.inl upd_same)) ?_
                  have ep : decide (fr = []) = EF.pairD (.tuple es) := by
                    rw [ones_nil q2 q3, cl]
                    have el : es.length = 2 := hyl.symm.trans cl
                    match es, el with
                    | [u0, u1], _ =>
                      show (!(!inD 0 39 u0) && (!(!inD 0 39 u1) && true)) = (inD 0 39 u0 && inD 0 39 u1)
                      rw [Bool.not_not, Bool.not_not, Bool.and_true]
                  rw [ep]
                  cases c3 : EF.pairD (.tuple es) with
                  | false => exact ⟨_, rfl, by rw [if_pos (by rfl)]; exact bad c3 _ (e2.trans ez)⟩
                  | true => exact ⟨_, rfl, by rw [if_neg (by decide)]; exact ⟨(e.trans e2).trans ez, good c3⟩⟩
              · have cl' : ¬ ((ys.length : Nat) : Int) = 2 := by omega
                rw [decide_eq_false cl', if_pos (by rfl)]
                refine bad ?_ _ (Ex.refl _)
                unfold EF.pairD
                split
                · next e0 =>
                  cases e0
                  exact absurd (hyl.trans rfl) cl
                · rfl
          · obtain ⟨l2, rfl, e, hj⟩ := hP
            have c2 : ds.all EF.pairD = true := by
              rw [List.all_eq_true]
              intro d hd
              obtain ⟨j, hj1, hj2⟩ := List.getElem_of_mem hd
              have := hj j (by omega)
              rw [List.getD_eq_getElem?_getD, List.getElem?_eq_getElem hj1] at this
              rw [← hj2]
              exact this
            obtain ⟨ts, rfl, tl, hts, hpg⟩ := dx_pairs hx c2
            have k2 : ∀ {b : Bool}, (dueQ (ds.map qD) && decide (p ∈ namesOf (ds.map qD))) = b → ∀ H2, Ex H1 H2 → Q (.bl b) H2 := fun {b} e0 H2 e2 => by
              have this : Q (.bl (true && exitsD (.list ds) && decide (p ∈ pagesD (.list ds)))) H2 := k H2 e2
              rw [Bool.true_and, exits_p c2, e0] at this
              exact this
            have ql : (ds.map qD).length ≤ 900 := by rw [List.length_map]; exact hlen
            clear k k0 kp hj hx hxl hsh c2
            generalize ds.map qD = qs at tl hts hpg k2 ql
            have hA0 : PairsAt K H1 a ts qs := ⟨.inl (.inl hA), tl, hts⟩
            have hA1 := hA0.ex e
            have nl : (namesOf qs).length = qs.length := List.length_map ..
            have hget : ∀ i, i < qs.length → qs[i]? = some (qs.getD i (0, 0)) := fun i hi => by rw [List.getD_eq_getElem?_getD, List.getElem?_eq_getElem hi]; rfl
            have npg : ∀ x ∈ namesOf qs, 0 ≤ x ∧ x < (60 : Nat) := fun x hx => by
              obtain ⟨q, hq, rfl⟩ := List.mem_map.mp hx
              have := (hpg q hq).1
              omega
            dsimp only
            refine seq_cut (fun σ2 H2 => ∃ b, σ2 = [some (.int p), some (.ref a), l2, some (.ref b), none, none, none, none, none, none] ∧ Ex H' H2 ∧ H2 b = some (.lst ((namesOf qs).map V.int))) (fun N hN => ?_) (fun σ2 H2 hC => ?_)
            · walk_at "sx"
              refine ⟨⟨_, hA1.1⟩, fun D nD => ?_⟩
              refine lc_pairs (ts := ts) (u := fun i => .int (qs.getD i (0, 0)).1) (v := fun i => .int (qs.getD i (0, 0)).2) (.inl ⟨rfl, hA1.1⟩) (fun i t ht => hA1.2.2 i t ht) (fun _ => true) (fun i => V.int (qs.getD i (0, 0)).1) nD (by omega) (fun u v => rfl) (fun i hi => tyes) (fun i hi _ => ev_var rfl) (fun H2 e2 hD => ?_)
              rw [tl, kept_pairs (P := fun _ => true) (g := fun q => q.1), List.filter_eq_self.mpr (fun _ _ => rfl)] at hD
              exact hN _ _ ⟨D, rfl, e2, hD⟩
            obtain ⟨b, rfl, e2, hb⟩ := hC
            refine seq_cut (fun σ3 H3 => σ3 = [some (.int p), some (.ref a), l2, some (.ref b), none, none, none, none, none, none] ∧ Ex H2 H3 ∧ (namesOf qs).Pairwise (· < ·) ∧ p ∈ namesOf qs) (fun N hN => ?_) (fun σ3 H3 hC => ?_)
            · walk_at "sx"
              refine ⟨namesOf qs, .inl (.inl hb), by omega, npg, fun ms r pw mem nr => ?_⟩
              have er := Ex.new nr (o := .lst (ms.map V.int))
              refine neInts (.inl (.inl (er _ _ hb))) (.inl (.inl upd_same)) ⟨_, rfl, ?_⟩
              rw [decide_eq_decide.mpr (pw_sorted pw mem)]
              by_cases cp : (namesOf qs).Pairwise (· < ·)
              · rw [decide_eq_true cp, if_neg (by decide)]
                refine ninL (.inl (.inl (er _ _ hb))) ⟨_, rfl, ?_⟩
                by_cases cm : p ∈ namesOf qs
                · rw [decide_eq_true cm, if_neg (by decide)]
                  exact hN _ _ ⟨rfl, er, cp, cm⟩
                · rw [decide_eq_false cm, if_pos (by rfl)]
                  exact k2 (by rw [decide_eq_false cm, Bool.and_false]) _ ((e.trans e2).trans er)
              · rw [decide_eq_false cp, if_pos (by rfl)]
                refine k2 ?_ _ ((e.trans e2).trans er)
                unfold dueQ
                rw [decide_eq_false cp, Bool.false_and, Bool.false_and, Bool.false_and, Bool.false_and]
            obtain ⟨rfl, e3, pw, pm⟩ := hC
            have E3 := (e.trans e2).trans e3
            have hA3 := hA0.ex E3
            have hb3 := e3 _ _ hb
            refine seq_cut (fun σ4 H4 => σ4 = [some (.int p), some (.ref a), l2, some (.ref b), none, none, none, none, none, none] ∧ Ex H3 H4 ∧ closedQ qs = true) (fun N hN => ?_) (fun σ4 H4 hC => ?_)
            · walk_at "sx"
              refine ⟨⟨_, hA3.1⟩, fun D nD => ?_⟩
              refine lc_pairs (ts := ts) (u := fun i => .int (qs.getD i (0, 0)).1) (v := fun i => .int (qs.getD i (0, 0)).2) (.inl ⟨rfl, hA3.1⟩) (fun i t ht => hA3.2.2 i t ht) (fun i => !decide ((qs.getD i (0, 0)).2 ∈ namesOf qs)) (fun i => V.int 1) nD (by omega) (fun u v => rfl) (fun i hi => ?_) (fun i hi _ => ev_c) (fun H4 e4 hD => ?_)
              · intro H5 e5 R hR
                walk_at "sx"
                refine ⟨_, rfl, _, rfl, ?_⟩
                exact ninL (.inl (.inl (e5 _ _ hb3))) ⟨_, rfl, hR _ (Ex.refl _)⟩
              · rw [tl, kept_pairs (P := fun q => !decide (q.2 ∈ namesOf qs)) (g := fun _ => 1)] at hD
                refine ⟨sz_ok (by omega), fun z nz1 => ?_⟩
                have ez := Ex.new nz1 (o := .lst [])
                refine neInts (ms := []) (.inl (.inl (ez _ _ hD))) (.inl (.inl upd_same)) ⟨_, rfl, ?_⟩
                have ec : decide (((qs.filter fun q => !decide (q.2 ∈ namesOf qs)).map fun _ => (1 : Int)) = []) = closedQ qs := by
                  have hiff : ((qs.filter fun q => !decide (q.2 ∈ namesOf qs)).map fun _ => (1 : Int)) = [] ↔ closedQ qs = true := by
                    rw [List.map_eq_nil_iff, List.filter_eq_nil_iff]
                    unfold closedQ
                    rw [List.all_eq_true]
                    constructor
                    · intro h q hq
                      have := h q hq
                      simpa using this
                    · intro h q hq
                      rw [h q hq]
                      decide
                  cases c : closedQ qs with
                  | true => exact decide_eq_true (hiff.mpr c)
                  | false =>
                    refine decide_eq_false fun h => ?_
                    rw [hiff.mp h] at c
                    cases c
                rw [ec]
                cases cc : closedQ qs with
                | true =>
                  rw [if_neg (by decide)]
                  exact hN _ _ ⟨rfl, e4.trans ez, cc⟩
                | false =>
                  rw [if_pos (by rfl)]
                  refine k2 ?_ _ (E3.trans (e4.trans ez))
                  unfold dueQ
                  rw [cc, Bool.and_false, Bool.false_and, Bool.false_and, Bool.false_and]
            obtain ⟨rfl, e4, cc⟩ := hC
            have hA4 := hA3.ex e4
            have hb4 := e4 _ _ hb3
            have E4 := E3.trans e4
            refine seq_cut (fun σ5 H5 => σ5 = [some (.int p), some (.ref a), l2, some (.ref b), none, none, none, none, none, none] ∧ Ex H4 H5 ∧ (rootsOf qs).length = 1) (fun N hN => ?_) (fun σ5 H5 hC => ?_)
            · walk_at "sx"
              refine ⟨⟨_, hA4.1⟩, fun D nD => ?_⟩
              refine lc_pairs (ts := ts) (u := fun i => .int (qs.getD i (0, 0)).1) (v := fun i => .int (qs.getD i (0, 0)).2) (.inl ⟨rfl, hA4.1⟩) (fun i t ht => hA4.2.2 i t ht) (fun i => decide ((qs.getD i (0, 0)).1 = (qs.getD i (0, 0)).2)) (fun i => V.int 1) nD (by omega) (fun u v => rfl) (fun i hi => ?_) (fun i hi _ => ev_c) (fun H5 e5 hD => ?_)
              · refine et_is (et_test (ev_op (ev_var rfl) (ev_var rfl) (rv_eq rfl))) ?_
                exact decide_eq_decide.mpr ⟨fun e => V.int.inj e, fun e => congrArg V.int e⟩
              · rw [tl, kept_pairs (P := fun q => decide (q.1 = q.2)) (g := fun _ => 1)] at hD
                refine lenL (.inl (.inl hD)) ?_
                rw [List.length_map, List.length_map]
                have el : (rootsOf qs).length = (qs.filter fun q => decide (q.1 = q.2)).length := by unfold rootsOf; rw [List.length_map]
                rw [← el]
                refine x_neI.mpr ⟨_, rfl, ?_⟩
                by_cases cr : (rootsOf qs).length = 1
                · have cr' : (((rootsOf qs).length : Nat) : Int) = 1 := by rw [cr]; rfl
                  rw [decide_eq_true cr', if_neg (by decide)]
                  exact hN _ _ ⟨rfl, e5, cr⟩
                · have cr' : ¬ (((rootsOf qs).length : Nat) : Int) = 1 := by omega
                  rw [decide_eq_false cr', if_pos (by rfl)]
                  refine k2 ?_ _ (E4.trans e5)
                  unfold dueQ
                  rw [decide_eq_false cr, Bool.and_false, Bool.false_and, Bool.false_and]
            obtain ⟨rfl, e5, cr⟩ := hC
            have hA5 := hA4.ex e5
            have hb5 := e5 _ _ hb4
            have E5 := E4.trans e5
            have ndk := names_nd pw
            walk_at "sx"
            refine ⟨a, ts, qs, rfl, hA5, ndk, fun d nd => ?_⟩
            have e6 := Ex.new nd (o := .dK (qs.map itK))
            have hd6 := upd_same (H := H5) (a := d) (o := .dK (qs.map itK))
            have hb6 := e6 _ _ hb5
            generalize upd H5 d (.dK (qs.map itK)) = H6 at e6 hd6 hb6
            have E6 := E5.trans e6
            have dg : ∀ x ∈ namesOf qs, DGet H6 d (.int x) (some (.int (nxq qs x))) := fun x hx => by
              obtain ⟨⟨x', y⟩, m, ex⟩ := List.mem_map.mp hx
              have ex' : x' = x := ex
              subst ex'
              rw [nxq_at pw m]
              exact .inl ⟨_, Sum.inl x', .inl hd6, rfl, by rw [getI_val, (getI_mem ndk).mp m]; rfl⟩
            have cnx := closed_nx pw cc
            refine ⟨⟨_, .inl (.inl hb6)⟩, ?_⟩
            refine lg_list (xs := (namesOf qs).map V.int) (fun i σ' H' => ∃ l5 l6 l7, σ' = [some (.int p), some (.ref a), l2, some (.ref b), some (.ref d), l5, l6, l7, none, none] ∧ H' = H6 ∧ ∀ j, j < i → nxq qs (it (nxq qs) qs.length ((namesOf qs).getD j 0)) = it (nxq qs) qs.length ((namesOf qs).getD j 0)) ⟨none, none, none, rfl, rfl, fun j hj => by omega⟩ (fun i σ' H' _ hP => by obtain ⟨_, _, _, _, rfl, _⟩ := hP; exact .inl (.inl hb6)) (fun i x σ' H' hxi hP => ?_) (fun σ' H' hP => ?_)
            · obtain ⟨l5, l6, l7, rfl, rfl, hj⟩ := hP
              obtain ⟨x, hx, rfl⟩ := ints_at hxi
              have hxm := List.mem_of_getElem? hx
              walk_at "sx"
              refine lenL (.inl (.inl hb6)) ⟨_, rfl, by omega, by rw [List.length_map]; omega, ?_⟩
              rw [List.length_map, Int.toNat_natCast, nl]
              refine lg_rng (fun m σ' H2 => ∃ l7, σ' = [some (.int p), some (.ref a), l2, some (.ref b), some (.ref d), some (.int x), some (.int (it (nxq qs) m x)), l7, none, none] ∧ H2 = H') ⟨l7, rfl, rfl⟩ (fun m σ' H2 hm hP => ?_) (fun σ' H2 hP => ?_)
              · obtain ⟨l7, rfl, rfl⟩ := hP
                walk_at "sx"
                exact ⟨_, dg _ (it_in cnx m hxm), by rw [it_last], _, rfl⟩
              · obtain ⟨l7, rfl, rfl⟩ := hP
                walk_at "sx"
                refine ⟨_, dg _ (it_in cnx qs.length hxm), ?_⟩
                refine x_neI.mpr ⟨_, rfl, ?_⟩
                by_cases ce : nxq qs (it (nxq qs) qs.length x) = it (nxq qs) qs.length x
                · rw [decide_eq_true ce, if_neg (by decide)]
                  refine ⟨_, _, _, ⟨rfl, rfl, rfl⟩, rfl, fun j hj2 => ?_⟩
                  by_cases ej : j = i
                  · rw [ej, List.getD_eq_getElem?_getD, hx]
                    exact ce
                  · exact hj j (by omega)
                · rw [decide_eq_false ce, if_pos (by rfl)]
                  refine k2 ?_ _ E6
                  unfold dueQ
                  have ca : ((namesOf qs).all fun p => decide (nxq qs (it (nxq qs) qs.length p) = it (nxq qs) qs.length p)) = false := by
                    rw [List.all_eq_false]
                    exact ⟨x, hxm, by simpa using ce⟩
                  rw [ca, Bool.and_false, Bool.false_and]
            · obtain ⟨l5, l6, l7, rfl, rfl, hj⟩ := hP
              walk_at "sx"
              refine k2 ?_ _ E6
              unfold dueQ
              rw [decide_eq_true pw, cc, decide_eq_true cr, decide_eq_true pm, Bool.true_and, Bool.true_and, Bool.true_and, Bool.and_true, List.all_eq_true]
              intro x hx
              obtain ⟨j, hj1, hj2⟩ := List.getElem_of_mem hx
              have := hj j (by rw [List.length_map]; exact hj1)
              rw [List.getD_eq_getElem?_getD, List.getElem?_eq_getElem hj1] at this
              rw [← hj2]
              exact decide_eq_true this
      · exact isi_x (b := false) (.base (.dK ha)) (by decide +kernel) (by walk_at "sx"; exact k0 rfl _ (Ex.refl _))
end
end LW

set_option Elab.async false
set_option linter.all false
set_option maxRecDepth 100000
set_option maxHeartbeats 4000000
namespace LW
open PySem PySem.Spec PyProof.Rows L2 BC Evl TR EF L2.DX
local macro_rules | `(tactic| walk_at "sx") => `(tactic| try simp only [x_callS, x_sortSetB, x_makeS, x_makeKS, x_seq, x_next, x_brk, x_cnt, x_nev, x_ret, x_retN, x_drop, x_ifS, x_asg, x_gn, x_gsub, x_par, x_par3, x_aug, x_for, x_lc, x_rng1, x_rng2, x_rng3, x_ilist, x_itup, x_ienum, x_izip, x_izipA, x_istr, x_var, x_c, x_op, x_un, x_test, x_b, x_chain, x_and, x_or, x_not, x_andV, x_orV, x_notV, x_ife, x_nil, x_cons, x_lst, x_tup, x_cb, x_call, x_callK, x_bm, x_bm0, x_tru, x_sl, x_nopart, x_part, x_revL, x_I0, x_I, x_U, x_ip, x_ipC, x_eqI, x_neI, x_eqB, x_neB, x_eqS, x_neS, x_isB, x_isNB, x_lrg, x_gall, x_lenSet, x_sortSet, x_rg1, x_rg2, x_dnewK, x_dnewT, x_dget, x_dget1, x_dget2, x_din, x_dnotin, x_dput, x_ikeys, x_fld, x_sfld, x_prop, x_meth, x_make, x_dc, x_callO, x_callOK,
  L2.start, List.map_cons, List.map_nil, List.length_cons, List.length_nil, Nat.reduceAdd, Nat.reduceSub, Nat.sub_self, Nat.zero_add, List.replicate, List.replicate_succ, List.replicate_zero, List.append_nil, List.cons_append, List.nil_append, List.set_cons_zero, List.set_cons_succ, List.getElem?_cons_zero, List.getElem?_cons_succ, Option.some.injEq, V.int.injEq, V.bl.injEq, V.ref.injEq, V.str.injEq, List.cons.injEq, and_true, true_and, exists_eq_left', exists_eq_left, exists_and_left, exists_eq, if_true, if_false, ite_true, ite_false, Bool.true_eq_false, Bool.false_eq_true, reduceIte, reduceCtorEq, Bool.not_true, Bool.not_false, decide_true, decide_false, decide_eq_true_eq, Bool.and_true, Bool.true_and, Bool.and_self, Bool.and_false, Bool.false_and, Bool.or_self, Bool.or_false, Bool.false_or, Bool.or_true, Bool.true_or, eq_self])
section
variable {P : Program} {w : World} {K : PySem.W.Frag} {mg : Str → Option Value} {base : Heap}
theorem ite_same {c : Prop} [Decidable c] {A B : Prop} (a : A) (b : A → B) : if c then A else B := by
  split
  · exact a
  · exact b a
def spMade (K : PySem.W.Frag) : Sp := fun vs H Q _ => ∃ (n : Nat) (v1 v2 : V) (d1 d2 : PyData), vs = [.int n, v1, v2] ∧ n ≤ 1 ∧ ArgX H v1 d1 ∧ ArgX H v2 d2 ∧ LenX d2 ∧
  (effD d1 d2 = true → ∀ (l pl : Addr) (ts : List Addr) H', Ex H H' → H' l = some (.lst [v1, .ref pl, .int ((qsOf d2).length : Nat)]) → H' pl = some (.lst (ts.map V.ref)) → ts.length = (qsOf d2).length → (∀ i u, ts[i]? = some u → PairAt H' u ((qsOf d2).getD i (0, 0))) → Q (.ref l) H') ∧ (effD d1 d2 = false → ∀ H', Ex H H' → Q .non H')
theorem ok_law_made (T : Txt K mg) : FnOk P w K mg base CX0 7 T.f_law_made T.fd_law_made ["_law_way", "_law_begin", "_law_pairs_here"] (spMade K) := by
  refine T.F_law_made.ok sc_law_made (fun vs H Q E h => ?_) (fun cdv A outer s H vs Q E hr h => ?_)
  · obtain ⟨n, v1, v2, d1, d2, rfl, _⟩ := h
    rfl
  · obtain ⟨n, v1, v2, d1, d2, rfl, hn, h1, h2, hlen, kT, kF⟩ := h
    apply Exists.intro
    apply And.intro
    · apply pss_cons
      · exact (ps_set (i := 3) sc_law_made.nd rfl (.inl rfl) pe_non)
      apply pss_cons
      · exact (ps_try_only rfl rfl ⟨rfl, by decide, .inl T.g_InvalidEffectError⟩ takes0 (fun W pn xe tk _ => (pss_one (ps_set (i := 3) sc_law_made.nd rfl (.inl rfl) (pe_ifExp (pt_cmpR op_eq (pv 0) pe_int (by rfl)) (pe_makeS T.M_Effect (ok_Effect___init T) (hr.mono (by decide)) (by rfl) T.g_Effect T.b_Effect___init (fun σ => passAt tk σ) (pa_cons (pv 1) (pa_cons (pv 2) pa_nil))) (pe_makeKS0 T.M_Effect (ok_Effect___init T) (hr.mono (by decide)) (by rfl) T.g_Effect T.k_Effect___init_1_2_1 (fun σ => passAt tk σ) (pk_cons (pv 2) (pk_cons (pv 1) pk_nil))))))) (fun a oe cls d pn _ _ => (pss_one (ps_ret pe_non))))
      apply pss_one
      exact (ps_ret (pe_lst (pa_cons (pe_prop (pv 3) T.cl_Effect T.p_Effect_first (ok_Effect_first T) (hr.mono (by decide)) T.b_Effect_first .nil pass0 rfl) (pa_cons (pe_prop (pv 3) T.cl_Effect T.p_Effect_exits (ok_Effect_exits T) (hr.mono (by decide)) T.b_Effect_exits .nil pass0 rfl) (pa_cons (pe_callB (call_lenOwn T.h_Effect___len T.i_Effect___len (ok_Effect___len T) (hr.mono (by decide)) T.b_Effect___len pass0) (by rfl) T.n_len PySem.boot_len (pa_cons (pv 3) pa_nil)) pa_nil)))))
    have fin : ∀ (H0 : Hp) (x dx : Addr), H x = none → H dx = none → dx ≠ x → H0 = upd (upd H dx (.own x)) x (.ins T.C_Effect dx []) → Ex H H0 := fun H0 x dx n1 n2 n3 e => by
      rw [e]
      exact (Ex.new n2).mut n1
    walk_at "sx"
    refine ite_same ?_ (fun a => a)
    intro x dx nx ndx ne
    have E0 := fin _ x dx nx ndx ne rfl
    refine ⟨x, dx, v1, v2, d1, d2, rfl, upd_same, h1.ex E0, h2.ex E0, hlen, fun c H1 e1 hE => ⟨rfl, ?_⟩, fun c H1 e1 => ?_⟩
    · have E1 : Ex H H1 := fun b o hb => e1 b o (E0 _ _ hb) (ne_of_none hb nx)
      obtain ⟨dx1, t, d, ts, q1, q2, q3, q4, q5⟩ := id hE
      refine ⟨_, _, q1, ⟨x, _, _, rfl, hE, ?_⟩⟩
      refine ⟨_, _, q1, ⟨x, _, _, rfl, hE, fun pl ts H2 npl e2 hpl hlen2 hts => ?_⟩⟩
      refine ⟨x, dx1, _, rfl, e2 _ _ q1, ⟨x, _, _, rfl, hE.ex e2, ⟨_, rfl, by omega, ?_, sz_ok (by omega), fun l nl => ?_⟩⟩⟩
      · have : (qsOf d2).length ≤ 900 := by
          cases d2 with
          | list ds => show (ds.map qD).length ≤ 900; rw [List.length_map]; exact hlen ds rfl
          | _ => exact Nat.zero_le _
        omega
      · have el := Ex.new nl (o := .lst [v1, V.ref pl, V.int ((qsOf d2).length : Nat)])
        exact kT c l pl ts _ ((E1.trans e2).trans el) upd_same (el _ _ hpl) hlen2 fun i u hi => el _ _ (hts i u hi)
    · refine ⟨true, exm_yes T.r_InvalidEffectError T.e_InvalidEffectError T.t_InvalidEffectError (by simp), fun _ => ?_, fun q => nomatch q⟩
      walk_at "sx"
      exact fun _ _ => kF c _ (E0.trans e1)
end
end LW

set_option Elab.async false
set_option linter.all false
set_option maxRecDepth 100000
set_option maxHeartbeats 4000000
namespace LW
open PySem PySem.Spec PyProof.Rows L2 BC Evl TR EF L2.DX
local macro_rules | `(tactic| walk_at "sx") => `(tactic| try simp only [x_callS, x_sortSetB, x_makeS, x_makeKS, x_seq, x_next, x_brk, x_cnt, x_nev, x_ret, x_retN, x_drop, x_ifS, x_asg, x_gn, x_gsub, x_par, x_par3, x_aug, x_for, x_lc, x_rng1, x_rng2, x_rng3, x_ilist, x_itup, x_ienum, x_izip, x_izipA, x_istr, x_var, x_c, x_op, x_un, x_test, x_b, x_chain, x_and, x_or, x_not, x_andV, x_orV, x_notV, x_ife, x_nil, x_cons, x_lst, x_tup, x_cb, x_call, x_callK, x_bm, x_bm0, x_tru, x_sl, x_nopart, x_part, x_revL, x_I0, x_I, x_U, x_ip, x_ipC, x_eqI, x_neI, x_eqB, x_neB, x_eqS, x_neS, x_isB, x_isNB, x_lrg, x_gall, x_lenSet, x_sortSet, x_rg1, x_rg2, x_dnewK, x_dnewT, x_dget, x_dget1, x_dget2, x_din, x_dnotin, x_dput, x_ikeys, x_fld, x_sfld, x_prop, x_meth, x_make, x_dc, x_callO, x_callOK,
  L2.start, List.map_cons, List.map_nil, List.length_cons, List.length_nil, Nat.reduceAdd, Nat.reduceSub, Nat.sub_self, Nat.zero_add, List.replicate, List.replicate_succ, List.replicate_zero, List.append_nil, List.cons_append, List.nil_append, List.set_cons_zero, List.set_cons_succ, List.getElem?_cons_zero, List.getElem?_cons_succ, Option.some.injEq, V.int.injEq, V.bl.injEq, V.ref.injEq, V.str.injEq, List.cons.injEq, and_true, true_and, exists_eq_left', exists_eq_left, exists_and_left, exists_eq, if_true, if_false, ite_true, ite_false, Bool.true_eq_false, Bool.false_eq_true, reduceIte, reduceCtorEq, Bool.not_true, Bool.not_false, decide_true, decide_false, decide_eq_true_eq, Bool.and_true, Bool.true_and, Bool.and_self, Bool.and_false, Bool.false_and, Bool.or_self, Bool.or_false, Bool.false_or, Bool.or_true, Bool.true_or, eq_self])
section
variable {P : Program} {w : World} {K : PySem.W.Frag} {mg : Str → Option Value} {base : Heap}
theorem hid_at {b p : Addr} {H : Hp} {o : HO} (n : p ≠ b) (h : H p = some o) : hidB b H p = some o := by rw [hid_ne n]; exact h
/-- a value that may stand in a list of pairs -/
def ElX (H : Hp) (x : V) : Prop := ∃ d, Dx H x d ∧ Gd 2 400 d ∧ d.canLay0 = true
theorem ElX.ex {H H' : Hp} {x : V} (h : ElX H x) (e : Ex H H') : ElX H' x := by
  obtain ⟨d, a, c⟩ := h
  exact ⟨d, Dx.ex e _ _ a, c⟩
/-- what is judged -/
def RowX (H : Hp) (v : V) : Prop := ∃ d, ArgX H v d ∧ LenX d ∧ Gd 4 110000 d
theorem RowX.ex {H H' : Hp} {v : V} (h : RowX H v) (e : Ex H H') : RowX H' v := by
  obtain ⟨d, a, c⟩ := h
  exact ⟨d, a.ex e, c⟩
theorem els_all {H : Hp} : ∀ {xs : List V}, (∀ x ∈ xs, ElX H x) → ∃ ds, DxAll H xs ds ∧ (∀ d ∈ ds, Gd 2 400 d) ∧ PyData.canLayAll0 ds = true
  | [], _ => ⟨[], .nil, fun d h => by simp at h, rfl⟩
  | x :: xs, h => by
    obtain ⟨d, a, b, c⟩ := h x List.mem_cons_self
    obtain ⟨ds, a2, b2, c2⟩ := els_all fun y hy => h y (List.mem_cons_of_mem _ hy)
    refine ⟨d :: ds, .cons a a2, fun e he => ?_, ?_⟩
    · rcases List.mem_cons.mp he with rfl | he
      · exact b
      · exact b2 e he
    · show (PyData.canLay0 d && PyData.canLayAll0 ds) = true
      rw [c, c2]
      rfl
theorem shp {d : PyData} {n W : Nat} (h : d.canLay0 = true) (g : Gd n W d) (hn : n ≤ 64) : SeqAt.shaped d = true := by
  show (d.canLay0 && decide (d.depth ≤ 64)) = true
  rw [h, decide_eq_true (Nat.le_trans g.dp hn)]
  rfl
theorem row_lst {H : Hp} {a : Addr} {xs : List V} (h : H a = some (.lst xs)) (hx : ∀ x ∈ xs, ElX H x) (hl : xs.length ≤ 200) : RowX H (.ref a) := by
  obtain ⟨ds, h1, h2, h3⟩ := els_all hx
  have hlen := h1.len
  have g : Gd 3 ((400 + 1) * ds.length) (.list ds) := Gd.list h2
  refine ⟨.list ds, .inl ⟨.lst h h1, shp (n := 3) (by show PyData.canLayAll0 ds = true; exact h3) g (by omega)⟩, fun es e => by cases e; omega, g.mono (by omega) (by omega)⟩
theorem row_tup {H : Hp} {a : Addr} {xs : List V} (h : H a = some (.tup xs)) (hx : ∀ x ∈ xs, ElX H x) (hl : xs.length ≤ 200) : RowX H (.ref a) := by
  obtain ⟨ds, h1, h2, h3⟩ := els_all hx
  have hlen := h1.len
  have g : Gd 3 ((400 + 1) * ds.length) (.tuple ds) := Gd.tuple h2
  refine ⟨.tuple ds, .inl ⟨.tup h h1, shp (n := 3) (by show PyData.canLayAll0 ds = true; exact h3) g (by omega)⟩, fun es e => (by cases e), g.mono (by omega) (by omega)⟩
theorem ab40 {x : Int} (h : -100 ≤ x ∧ x < 100) : x.natAbs < 10 ^ 38 := Nat.lt_of_lt_of_le (m := 101) (by omega) (by decide)
theorem el_pair {H : Hp} {t : Addr} {x y : Int} (h : H t = some (.tup [V.int x, V.int y])) (hx : x.natAbs < 10 ^ 38) (hy : y.natAbs < 10 ^ 38) : ElX H (.ref t) := by
  refine ⟨.tuple [.int x, .int y], .tup h (.cons (.int x) (.cons (.int y) .nil)), (Gd.tuple (n := 0) (W := 130) fun d m => ?_).mono (by omega) (by simp), rfl⟩
  simp only [List.mem_cons, List.mem_nil_iff, or_false] at m
  rcases m with rfl | rfl
  · exact Gd.int hx
  · exact Gd.int hy
/-- a tuple or a list of short values -/
theorem el_tup {H : Hp} {t : Addr} {xs : List V} {ds : List PyData} (h : H t = some (.tup xs)) (hx : DxAll H xs ds) (hg : ∀ d ∈ ds, Gd 1 132 d) (hl : ds.length ≤ 3) (hc : PyData.canLayAll0 ds = true) : ElX H (.ref t) :=
  ⟨.tuple ds, .tup h hx, (Gd.tuple hg).mono (by omega) (by omega), hc⟩
theorem el_lst {H : Hp} {t : Addr} {xs : List V} {ds : List PyData} (h : H t = some (.lst xs)) (hx : DxAll H xs ds) (hg : ∀ d ∈ ds, Gd 1 132 d) (hl : ds.length ≤ 3) (hc : PyData.canLayAll0 ds = true) : ElX H (.ref t) :=
  ⟨.list ds, .lst h hx, (Gd.list hg).mono (by omega) (by omega), hc⟩
theorem g_int {x : Int} (h : x.natAbs < 10 ^ 38) : Gd 1 132 (.int x) := (Gd.int h).mono (by omega) (by omega)
theorem g_non : Gd 1 132 .none := Gd.non.mono (by omega) (by omega)
theorem g_bl (b : Bool) : Gd 1 132 (.bool b) := (Gd.bl b).mono (by omega) (by omega)
theorem g_one {x : Int} (h : x.natAbs < 10 ^ 38) : Gd 1 132 (.list [.int x]) := (Gd.list (n := 0) (W := 130) fun d m => by rw [List.mem_singleton.mp m]; exact Gd.int h).mono (by omega) (by simp)
theorem g_strF : ∀ k : Fin 40, (PyData.str (Str.ofString (toString ((k.val : Nat) : Int)))).leavesShort 40 = true ∧ (Str.ofString (toString ((k.val : Nat) : Int))).cps.size ≤ 132 ∧ PyData.canLay0 (.str (Str.ofString (toString ((k.val : Nat) : Int)))) = true := by decide +kernel
theorem g_str {x : Int} (h : 0 ≤ x ∧ x < 40) : Gd 1 132 (.str (Str.ofString (toString x))) ∧ PyData.canLay0 (.str (Str.ofString (toString x))) = true := by
  have k := g_strF ⟨x.toNat, by omega⟩
  rw [show ((x.toNat : Nat) : Int) = x by omega] at k
  exact ⟨(Gd.str k.1).mono (by omega) k.2.1, k.2.2⟩
/-- a pair of short numbers -/
def ElP (H : Hp) (v : V) : Prop := ∃ x y : Int, Dx H v (.tuple [.int x, .int y]) ∧ x.natAbs < 10 ^ 38 ∧ y.natAbs < 10 ^ 38
theorem ElP.ex {H H' : Hp} {v : V} (h : ElP H v) (e : Ex H H') : ElP H' v := by
  obtain ⟨x, y, a, c⟩ := h
  exact ⟨x, y, Dx.ex e _ _ a, c⟩
theorem elps_all {H : Hp} : ∀ {xs : List V}, (∀ x ∈ xs, ElP H x) → ∃ ds, DxAll H xs ds ∧ (∀ d ∈ ds, Gd 1 262 d) ∧ PyData.canLayAll0 ds = true
  | [], _ => ⟨[], .nil, fun d h => by simp at h, rfl⟩
  | x :: xs, h => by
    obtain ⟨u, v, a, b, c⟩ := h x List.mem_cons_self
    obtain ⟨ds, a2, b2, c2⟩ := elps_all fun y hy => h y (List.mem_cons_of_mem _ hy)
    refine ⟨_ :: ds, .cons a a2, fun e he => ?_, ?_⟩
    · rcases List.mem_cons.mp he with rfl | he
      · refine (Gd.tuple (n := 0) (W := 130) fun d m => ?_).mono (by omega) (by simp)
        simp only [List.mem_cons, List.mem_nil_iff, or_false] at m
        rcases m with rfl | rfl
        · exact Gd.int b
        · exact Gd.int c
      · exact b2 e he
    · show (PyData.canLay0 (.tuple [.int u, .int v]) && PyData.canLayAll0 ds) = true
      rw [c2]
      rfl
theorem row_big {H : Hp} {a : Addr} {xs : List V} (h : H a = some (.lst xs)) (hx : ∀ x ∈ xs, ElP H x) (hl : xs.length ≤ 400) : RowX H (.ref a) := by
  obtain ⟨ds, h1, h2, h3⟩ := elps_all hx
  have hlen := h1.len
  have g : Gd 2 ((262 + 1) * ds.length) (.list ds) := Gd.list h2
  exact ⟨.list ds, .inl ⟨.lst h h1, shp (n := 2) (by show PyData.canLayAll0 ds = true; exact h3) g (by omega)⟩, fun es e => (by cases e; omega), g.mono (by omega) (by omega)⟩
/-- the numbers of a pair, as the heap tells them -/
def kOf (G : Hp) (v : V) : Int × Int := match v with
  | .ref t => (match G t with | some (.tup [.int a, .int b]) => (a, b) | _ => (0, 0))
  | _ => (0, 0)
theorem kOf_at {G : Hp} {t : Addr} {x y : Int} (h : G t = some (.tup [V.int x, V.int y])) : ∃ t', V.ref t = V.ref t' ∧ G t' = some (.tup [.int (kOf G (.ref t)).1, .int (kOf G (.ref t)).2]) := by
  have e : kOf G (.ref t) = (x, y) := by simp only [kOf, h]
  exact ⟨t, rfl, by rw [e]; exact h⟩
/-- a case: a first page and exits -/
def ArgT (H : Hp) (u : Addr) : Prop := ∃ v1 v2, H u = some (.tup [v1, v2]) ∧ RowX H v1 ∧ RowX H v2
theorem ArgT.ex {H H' : Hp} {u : Addr} (h : ArgT H u) (e : Ex H H') : ArgT H' u := by
  obtain ⟨v1, v2, a, c, d⟩ := h
  exact ⟨v1, v2, e _ _ a, c.ex e, d.ex e⟩
def spBent (K : PySem.W.Frag) : Sp := fun vs H Q _ => ∃ (b a : Addr) (p : Int) (row : List Int) (ts : List Addr) (c : Nat), vs = [.ref b, .int p, .ref a] ∧ a ≠ b ∧ H a = some (.lst (ts.map V.ref)) ∧ PairsAt K H a ts (exs row) ∧ Pg 40 row ∧ p ∈ row ∧ (∀ t ∈ ts, t ≠ b) ∧ BagAt H b c ∧ c ≤ 900000 ∧
  ∀ (l : Addr) (us : List Addr) H', Fx b H H' → BagAt H' b (c + 5) → l ≠ b → H' l = some (.lst (us.map V.ref)) → us.length ≤ 60 → (∀ u ∈ us, ArgT (hidB b H') u) → Q (.ref l) H'
theorem ok_law_bent (T : Txt K mg) : FnOk P w K mg base CX0 3 T.f_law_bent T.fd_law_bent ["_law_bag_here", "_law_begin", "_law_pairs_here"] (spBent K) := by
  refine T.F_law_bent.ok sc_law_bent (fun vs H Q E h => ?_) (fun cdv A outer s H vs Q E hr h => ?_)
  · obtain ⟨b, a, p, row, ts, c, rfl, _⟩ := h
    rfl
  · obtain ⟨b, a, p, row, ts, c, rfl, nab, ha, hA, hp, hpm, ntb, hB, hc, k⟩ := h
    apply Exists.intro
    apply And.intro
    · apply pss_cons
      · exact (ps_par3 (i := 10) (j := 11) (l := 12) (by rfl) sc_law_bent.nd rfl rfl rfl (by decide) (by decide) (by decide) rfl rfl rfl (pa_cons (pe_call (ok_law_draw T) (hr.mono (by decide)) (by rfl) T.m_law_draw T.F_law_draw.kp T.b_law_draw .nil pass0 (pa_cons (pv 0) (pa_cons (pe_callB (k_len (K := K) rfl) (by rfl) T.n_len PySem.boot_len (pa_cons (pv 2) pa_nil)) pa_nil))) (pa_cons (pe_call (ok_law_draw T) (hr.mono (by decide)) (by rfl) T.m_law_draw T.F_law_draw.kp T.b_law_draw .nil pass0 (pa_cons (pv 0) (pa_cons (pe_callB (k_len (K := K) rfl) (by rfl) T.n_len PySem.boot_len (pa_cons (pv 2) pa_nil)) pa_nil))) (pa_cons (pe_call (ok_law_draw T) (hr.mono (by decide)) (by rfl) T.m_law_draw T.F_law_draw.kp T.b_law_draw .nil pass0 (pa_cons (pv 0) (pa_cons pe_int pa_nil))) pa_nil))) (by rfl))
      apply pss_cons
      · exact (ps_asg (pe_ix (k_ix_list (K := K) rfl) (pv 2) (pv 10) (fun _ _ => rfl)) (k_tup (K := K) (n := 2) rfl rfl (pgs_cons (pg_name (i := 13) sc_law_bent.nd rfl (.inl rfl)) (pgs_cons (pg_name (i := 14) sc_law_bent.nd rfl (.inl rfl)) pgs_nil))))
      apply pss_cons
      · exact (ps_set (i := 3) sc_law_bent.nd rfl (.inl rfl) (pe_lst (pa_cons (pe_tup (pa_cons (pv 13) (pa_cons (pe_un un_neg pe_int) pa_nil))) (pa_cons (pe_tup (pa_cons (pv 13) (pa_cons pe_int pa_nil))) (pa_cons (pe_tup (pa_cons (pv 13) (pa_cons pe_non pa_nil))) (pa_cons (pe_tup (pa_cons (pv 13) (pa_cons pe_bl pa_nil))) (pa_cons (pe_tup (pa_cons (pv 13) pa_nil)) (pa_cons (pe_lst (pa_cons (pv 13) (pa_cons (pv 14) pa_nil))) pa_nil))))))))
      apply pss_cons
      · exact (ps_set (i := 3) sc_law_bent.nd rfl (.inl rfl) (pe_op op_cat (pv 3) (pe_lst (pa_cons pe_non (pa_cons (pe_tup (pa_cons (pv 13) (pa_cons (pv 14) (pa_cons (pv 14) pa_nil)))) (pa_cons (pe_tup (pa_cons (pe_callTy call_str_int (by rfl) T.n_str (by decide +kernel) (pa_cons (pv 13) pa_nil)) (pa_cons (pv 14) pa_nil))) (pa_cons (pe_tup (pa_cons (pv 13) (pa_cons (pe_lst (pa_cons (pv 14) pa_nil)) pa_nil))) (pa_cons (pv 13) (pa_cons (pe_tup (pa_cons (pe_un un_neg pe_int) (pa_cons (pv 14) pa_nil))) pa_nil)))))))))
      apply pss_cons
      · exact (ps_set (i := 3) sc_law_bent.nd rfl (.inl rfl) (pe_op op_cat (pv 3) (pe_lst (pa_cons (pe_tup (pa_cons pe_bl (pa_cons (pv 14) pa_nil))) (pa_cons (pe_tup pa_nil) pa_nil)))))
      apply pss_cons
      · exact (ps_set (i := 4) sc_law_bent.nd rfl (.inl rfl) (pe_ix (k_ix_list (K := K) rfl) (pv 3) (pe_call (ok_law_draw T) (hr.mono (by decide)) (by rfl) T.m_law_draw T.F_law_draw.kp T.b_law_draw .nil pass0 (pa_cons (pv 0) (pa_cons pe_int pa_nil))) (fun _ _ => rfl)))
      apply pss_cons
      · exact (ps_set (i := 5) sc_law_bent.nd rfl (.inl rfl) (pe_callTy (k_listOf (K := K) rfl) (by rfl) T.n_list (by decide +kernel) (pa_cons (pv 2) pa_nil)))
      apply pss_cons
      · exact (ps_asg (pe_tup (pa_cons (pe_ix (k_ix_list (K := K) rfl) (pv 2) (pv 11) (fun _ _ => rfl)) (pa_cons (pe_ix (k_ix_list (K := K) rfl) (pv 2) (pv 10) (fun _ _ => rfl)) pa_nil))) (k_tup (K := K) (n := 2) rfl rfl (pgs_cons (pg_sub (pv 5) (pv 10) set_list) (pgs_cons (pg_sub (pv 5) (pv 11) set_list) pgs_nil))))
      apply pss_cons
      · exact (ps_set (i := 6) sc_law_bent.nd rfl (.inl rfl) (pe_lst (pa_cons (pe_op op_cat (pe_op op_cat (pe_slice (k_sl_list (K := K) rfl) (pv 2) po_none (po_some (pv 10))) (pe_lst (pa_cons (pv 4) pa_nil))) (pe_slice (k_sl_list (K := K) rfl) (pv 2) (po_some (pe_op op_add (pv 10) pe_int)) po_none)) (pa_cons (pe_op op_cat (pe_op op_cat (pe_slice (k_sl_list (K := K) rfl) (pv 2) po_none (po_some (pv 10))) (pe_lst (pa_cons (pv 4) pa_nil))) (pe_slice (k_sl_list (K := K) rfl) (pv 2) (po_some (pv 10)) po_none)) (pa_cons (pv 5) (pa_cons (pe_op op_cat (pv 2) (pe_lst (pa_cons (pe_ix (k_ix_list (K := K) rfl) (pv 2) (pv 10) (fun _ _ => rfl)) pa_nil))) pa_nil))))))
      apply pss_cons
      · exact (ps_set (i := 6) sc_law_bent.nd rfl (.inl rfl) (pe_op op_cat (pv 6) (pe_lst (pa_cons (pe_op op_cat (pe_slice (k_sl_list (K := K) rfl) (pv 2) po_none (po_some (pv 10))) (pe_slice (k_sl_list (K := K) rfl) (pv 2) (po_some (pe_op op_add (pv 10) pe_int)) po_none)) (pa_cons (pe_op op_cat (pe_op op_cat (pe_slice (k_sl_list (K := K) rfl) (pv 2) po_none (po_some (pv 10))) (pe_lst (pa_cons (pe_tup (pa_cons (pv 13) (pa_cons (pe_ix (k_ix_tup (K := K) rfl) (pe_ix (k_ix_list (K := K) rfl) (pv 2) (pv 11) (fun _ _ => rfl)) pe_int (fun _ _ => rfl)) pa_nil))) pa_nil))) (pe_slice (k_sl_list (K := K) rfl) (pv 2) (po_some (pe_op op_add (pv 10) pe_int)) po_none)) (pa_cons (k_rev (K := K) rfl (pv 2)) pa_nil))))))
      apply pss_cons
      · apply ps_for PassesOwn.never rfl
        · exact (k_pi_list (K := K) rfl (pe_lst (pa_cons (pv 13) (pa_cons (pv 12) pa_nil))))
        · exact (pg_name (i := 7) sc_law_bent.nd rfl (.inl rfl))
        · apply pss_one
          exact (ps_expr (k_bm (K := K) rfl (pe_bm PySem.F.plainAttrs_list PySem.F.slot_list_append PySem.F.type_list_append mt_append (pv 6) (pa_cons (pe_op op_cat (pe_op op_cat (pe_slice (k_sl_list (K := K) rfl) (pv 2) po_none (po_some (pv 10))) (pe_lst (pa_cons (pe_tup (pa_cons (pv 13) (pa_cons (pv 7) pa_nil))) pa_nil))) (pe_slice (k_sl_list (K := K) rfl) (pv 2) (po_some (pe_op op_add (pv 10) pe_int)) po_none)) pa_nil))))
      apply pss_cons
      · exact (ps_set (i := 6) sc_law_bent.nd rfl (.inl rfl) (pe_op op_cat (pv 6) (pe_lst (pa_cons (pe_callB (k_sortedP (K := K) rfl) (by rfl) T.n_sorted (by decide +kernel) (pa_cons (pe_op op_cat (pv 2) (pe_lst (pa_cons (pe_tup (pa_cons (pv 12) (pa_cons (pv 14) pa_nil))) pa_nil))) pa_nil)) (pa_cons (pe_callB (k_sortedP (K := K) rfl) (by rfl) T.n_sorted (by decide +kernel) (pa_cons (pe_op op_cat (pv 2) (pe_lst (pa_cons (pe_tup (pa_cons (pv 12) (pa_cons (pv 12) pa_nil))) pa_nil))) pa_nil)) (pa_cons (pe_callTy (k_tupOf (K := K) rfl) (by rfl) T.n_tuple (by decide +kernel) (pa_cons (pv 2) pa_nil)) pa_nil))))))
      apply pss_cons
      · exact (ps_set (i := 6) sc_law_bent.nd rfl (.inl rfl) (pe_op op_cat (pv 6) (pe_lst (pa_cons pe_non (pa_cons pe_int (pa_cons pe_str (pa_cons pe_dnewK (pa_cons (pe_lst pa_nil) (pa_cons (pe_lst (pa_cons (pv 2) pa_nil)) pa_nil)))))))))
      apply pss_cons
      · exact (ps_setLc (i := 8) (own := [("_law_row_here", 15)]) rfl sc_law_bent.nd rfl rfl (sw_true rfl rfl rfl (by decide +kernel)) (k_pi_list (K := K) rfl (pe_op op_cat (pv 6) (pe_lst (pa_cons (pv 2) (pa_cons (pe_slice (k_sl_list (K := K) rfl) (pe_op op_rep (pv 2) pe_int) po_none (po_some pe_int)) pa_nil))))) (blkOk_by (own := [("_law_row_here", 15)]) (N := ["_law_bag_here", "_law_begin", "_law_pairs_here", "_law_odd", "_law_bad", "_law_swapped", "_law_rows", "_law_other", "_law_found", "_law_thing", "_law_at", "_law_to", "_law_new", "_law_page_here", "_law_out", "_law_row_here"]) (sc := defScope s_law_bent) (by decide +kernel)) (fun _ _ _ _ _ => by exact (pg_name (i := 15) sc_law_bent.nd rfl (.inl rfl))) (fun _ _ _ _ _ => by exact pts_nil) (fun _ _ _ _ _ => by exact (pe_tup (pa_cons (pv 1) (pa_cons (pv 15) pa_nil)))))
      apply pss_cons
      · apply ps_for PassesOwn.never rfl
        · exact (k_pi_list (K := K) rfl (pe_lst (pa_cons pe_non (pa_cons (pe_un un_neg pe_int) (pa_cons pe_int (pa_cons pe_bl (pa_cons pe_str (pa_cons (pe_lst (pa_cons (pv 1) pa_nil)) (pa_cons (pe_tup (pa_cons (pv 1) pa_nil)) (pa_cons (pv 12) (pa_cons (pv 13) (pa_cons pe_dnewK (pa_cons (pe_op op_powX pe_int pe_int) (pa_cons (pe_un un_neg pe_int) pa_nil))))))))))))))
        · exact (pg_name (i := 9) sc_law_bent.nd rfl (.inl rfl))
        · apply pss_one
          exact (ps_expr (k_bm (K := K) rfl (pe_bm PySem.F.plainAttrs_list PySem.F.slot_list_append PySem.F.type_list_append mt_append (pv 8) (pa_cons (pe_tup (pa_cons (pv 9) (pa_cons (pv 2) pa_nil))) pa_nil))))
      apply pss_one
      exact (ps_ret (pe_op op_cat (pv 8) (pe_lst (pa_cons (pe_tup (pa_cons pe_non (pa_cons pe_non pa_nil))) (pa_cons (pe_tup (pa_cons pe_non (pa_cons (pe_tup pa_nil) pa_nil))) (pa_cons (pe_tup (pa_cons pe_non (pa_cons (pe_lst (pa_cons pe_non pa_nil)) pa_nil))) (pa_cons (pe_tup (pa_cons pe_int (pa_cons (pe_lst pa_nil) pa_nil))) (pa_cons (pe_tup (pa_cons pe_int (pa_cons (pe_lst (pa_cons (pe_tup (pa_cons pe_int (pa_cons pe_int pa_nil))) pa_nil)) pa_nil))) (pa_cons (pe_tup (pa_cons pe_int (pa_cons (pe_lst (pa_cons (pe_tup (pa_cons pe_int (pa_cons pe_int pa_nil))) (pa_cons (pe_tup (pa_cons pe_int (pa_cons pe_int pa_nil))) pa_nil))) pa_nil))) pa_nil)))))))))
    have hl40 := exs_len40 row
    have hne : row ≠ [] := List.ne_nil_of_mem hpm
    have tl := hA.2.1
    have hl1 : 1 ≤ (exs row).length := by
      have := (mem_exs hp).mpr (nx_lst hne)
      exact List.length_pos_of_mem this
    have hget : ∀ i, i < (exs row).length → (exs row)[i]? = some ((exs row).getD i (0, 0)) := fun i hi => by rw [List.getD_eq_getElem?_getD, List.getElem?_eq_getElem hi]; rfl
    have hpg : ∀ q ∈ exs row, (0 ≤ q.1 ∧ q.1 < 40) ∧ 0 ≤ q.2 ∧ q.2 < 40 := fun q hq => by
      obtain ⟨x, y⟩ := q
      obtain ⟨h1, h2⟩ := mem_nx ((mem_exs hp).mp hq)
      exact ⟨hp x h1, hp y h2⟩
    have hts := hA.2.2
    clear hA
    refine seq_cut (fun σ' H' => ∃ (i j : Nat) (n : Int), σ' = [some (.ref b), some (.int p), some (.ref a), none, none, none, none, none, none, none, some (.int i), some (.int j), some (.int n), none, none, none] ∧ i < (exs row).length ∧ j < (exs row).length ∧ 0 ≤ n ∧ n < 40 ∧ Fx b H H' ∧ BagAt H' b (c + 3)) (fun N hN => ?_) (fun σ1 H1 hC => ?_)
    · walk_at "sx"
      refine lenL (.inl (.inl ha)) ?_
      rw [List.length_map, tl]
      refine ⟨b, _, c, rfl, by omega, big_of (by omega), hB, by omega, fun r1 H1 r10 r11 f1 b1 => ?_⟩
      refine lenL (.inl (.inl (f1 _ _ nab ha))) ?_
      rw [List.length_map, tl]
      refine ⟨b, _, _, rfl, by omega, big_of (by omega), b1, by omega, fun r2 H2 r20 r21 f2 b2 => ?_⟩
      refine ⟨b, _, _, rfl, by omega, big_of (by omega), b2, by omega, fun r3 H3 r30 r31 f3 b3 => ?_⟩
      exact ⟨_, _, _, ⟨rfl, rfl, rfl⟩, hN _ _ ⟨r1.toNat, r2.toNat, r3, by rw [Int.toNat_of_nonneg r10, Int.toNat_of_nonneg r20], by omega, by omega, r30, r31, (f1.trans f2).trans f3, b3⟩⟩
    obtain ⟨i, j, n, rfl, hi, hj, n0, n1, f1, b1⟩ := hC
    have ha1 := f1 _ _ nab ha
    have hts1 : ∀ i u, ts[i]? = some u → PairAt H1 u ((exs row).getD i (0, 0)) := fun i u hu => f1 _ _ (ntb u (List.mem_of_getElem? hu)) (hts i u hu)
    refine seq_cut (fun σ' H' => σ' = [some (.ref b), some (.int p), some (.ref a), none, none, none, none, none, none, none, some (.int i), some (.int j), some (.int n), some (.int ((exs row).getD i (0, 0)).1), some (.int ((exs row).getD i (0, 0)).2), none] ∧ H' = H1) (fun N hN => ?_) (fun σ2 H2 hC => ?_)
    · walk_at "sx"
      obtain ⟨t, ht⟩ : ∃ t, ts[i]? = some t := ⟨_, List.getElem?_eq_getElem (by omega)⟩
      refine ixL (.inl (.inl ha1)) (atI_n (j := i) rfl (by rw [List.getElem?_map, ht]; rfl)) ?_
      refine g_two (pr_ev (hts1 i t ht)) ?_
      exact hN _ _ ⟨rfl, rfl⟩
    obtain ⟨rfl, rfl⟩ := hC
    have hq := hpg _ (List.mem_of_getElem? (hget i hi))
    obtain ⟨x, y, hxy⟩ : ∃ x y, (exs row).getD i (0, 0) = (x, y) := ⟨_, _, rfl⟩
    have hqx : 0 ≤ x ∧ x < 40 := by rw [hxy] at hq; exact hq.1
    have hqy : 0 ≤ y ∧ y < 40 := by rw [hxy] at hq; exact hq.2
    rw [hxy]
    refine seq_asg (fun v G => ∃ (o : Addr) (xs : List V), v = .ref o ∧ o ≠ b ∧ Ex H2 G ∧ G o = some (.lst xs) ∧ xs.length = 6 ∧ ∀ x ∈ xs, ElX (hidB b G) x) (fun R hR => ?_) (fun v H3 hC => ?_)
    · walk_at "sx"
      refine ⟨sz_ok (by omega), fun za1 ma1 => ?_⟩
      have ea1 := Ex.new ma1 (o := HO.tup [V.int x, V.int (-1)])
      have ha1 := upd_same (H := H2) (a := za1) (o := HO.tup [V.int x, V.int (-1)])
      generalize upd H2 za1 (HO.tup [V.int x, V.int (-1)]) = Ga1 at ea1 ha1 ⊢
      have na1 : za1 ≠ b := (b1.ex (Ex.refl H2)).apart ma1
      have ra1 : ElX (hidB b Ga1) (.ref za1) := el_pair (hid_at na1 ha1) (ab40 (by omega)) (ab40 (by omega))
      refine ⟨sz_ok (by omega), fun za2 ma2 => ?_⟩
      have ea2 := Ex.new ma2 (o := HO.tup [V.int x, V.int 40])
      have ha2 := upd_same (H := Ga1) (a := za2) (o := HO.tup [V.int x, V.int 40])
      generalize upd Ga1 za2 (HO.tup [V.int x, V.int 40]) = Ga2 at ea2 ha2 ⊢
      have na2 : za2 ≠ b := (b1.ex (ea1)).apart ma2
      have ra2 : ElX (hidB b Ga2) (.ref za2) := el_pair (hid_at na2 ha2) (ab40 (by omega)) (ab40 (by omega))
      refine ⟨sz_ok (by omega), fun za3 ma3 => ?_⟩
      have ea3 := Ex.new ma3 (o := HO.tup [V.int x, V.non])
      have ha3 := upd_same (H := Ga2) (a := za3) (o := HO.tup [V.int x, V.non])
      generalize upd Ga2 za3 (HO.tup [V.int x, V.non]) = Ga3 at ea3 ha3 ⊢
      have na3 : za3 ≠ b := (b1.ex ((ea1.trans ea2))).apart ma3
      have ra3 : ElX (hidB b Ga3) (.ref za3) := el_tup (hid_at na3 ha3) (.cons (.int x) (.cons .non .nil)) (fun d m => by simp only [List.mem_cons, List.mem_nil_iff, or_false] at m; rcases m with rfl | rfl <;> first | exact g_int (ab40 (by omega)) | exact g_non | exact g_bl _ | exact g_one (ab40 (by omega)) | exact (g_str (by omega)).1) (by simp) rfl
      refine ⟨sz_ok (by omega), fun za4 ma4 => ?_⟩
      have ea4 := Ex.new ma4 (o := HO.tup [V.int x, V.bl true])
      have ha4 := upd_same (H := Ga3) (a := za4) (o := HO.tup [V.int x, V.bl true])
      generalize upd Ga3 za4 (HO.tup [V.int x, V.bl true]) = Ga4 at ea4 ha4 ⊢
      have na4 : za4 ≠ b := (b1.ex (((ea1.trans ea2).trans ea3))).apart ma4
      have ra4 : ElX (hidB b Ga4) (.ref za4) := el_tup (hid_at na4 ha4) (.cons (.int x) (.cons (.bl true) .nil)) (fun d m => by simp only [List.mem_cons, List.mem_nil_iff, or_false] at m; rcases m with rfl | rfl <;> first | exact g_int (ab40 (by omega)) | exact g_non | exact g_bl _ | exact g_one (ab40 (by omega)) | exact (g_str (by omega)).1) (by simp) rfl
      refine ⟨sz_ok (by omega), fun za5 ma5 => ?_⟩
      have ea5 := Ex.new ma5 (o := HO.tup [V.int x])
      have ha5 := upd_same (H := Ga4) (a := za5) (o := HO.tup [V.int x])
      generalize upd Ga4 za5 (HO.tup [V.int x]) = Ga5 at ea5 ha5 ⊢
      have na5 : za5 ≠ b := (b1.ex ((((ea1.trans ea2).trans ea3).trans ea4))).apart ma5
      have ra5 : ElX (hidB b Ga5) (.ref za5) := el_tup (hid_at na5 ha5) (.cons (.int x) .nil) (fun d m => by rw [List.mem_singleton.mp m]; exact g_int (ab40 (by omega))) (by simp) rfl
      refine ⟨sz_ok (by omega), fun za6 ma6 => ?_⟩
      have ea6 := Ex.new ma6 (o := HO.lst [V.int x, V.int y])
      have ha6 := upd_same (H := Ga5) (a := za6) (o := HO.lst [V.int x, V.int y])
      generalize upd Ga5 za6 (HO.lst [V.int x, V.int y]) = Ga6 at ea6 ha6 ⊢
      have na6 : za6 ≠ b := (b1.ex (((((ea1.trans ea2).trans ea3).trans ea4).trans ea5))).apart ma6
      have ra6 : ElX (hidB b Ga6) (.ref za6) := el_lst (hid_at na6 ha6) (.cons (.int x) (.cons (.int y) .nil)) (fun d m => by simp only [List.mem_cons, List.mem_nil_iff, or_false] at m; rcases m with rfl | rfl <;> first | exact g_int (ab40 (by omega)) | exact g_non | exact g_bl _ | exact g_one (ab40 (by omega)) | exact (g_str (by omega)).1) (by simp) rfl
      refine ⟨sz_ok (by omega), fun za7 ma7 => ?_⟩
      have ea7 := Ex.new ma7 (o := HO.lst [V.ref za1, V.ref za2, V.ref za3, V.ref za4, V.ref za5, V.ref za6])
      have ha7 := upd_same (H := Ga6) (a := za7) (o := HO.lst [V.ref za1, V.ref za2, V.ref za3, V.ref za4, V.ref za5, V.ref za6])
      generalize upd Ga6 za7 (HO.lst [V.ref za1, V.ref za2, V.ref za3, V.ref za4, V.ref za5, V.ref za6]) = Ga7 at ea7 ha7 ⊢
      have na7 : za7 ≠ b := (b1.ex ((((((ea1.trans ea2).trans ea3).trans ea4).trans ea5).trans ea6))).apart ma7
      have sa7 := Ex.refl Ga7
      have sa6 := ea7.trans sa7
      have sa5 := ea6.trans sa6
      have sa4 := ea5.trans sa5
      have sa3 := ea4.trans sa4
      have sa2 := ea3.trans sa3
      have sa1 := ea2.trans sa2
      have Ea := ea1.trans sa1
      refine hR _ _ ⟨za7, _, rfl, na7, Ea, ha7, rfl, fun v hv => ?_⟩
      simp only [List.mem_cons, List.mem_nil_iff, or_false] at hv
      rcases hv with rfl | rfl | rfl | rfl | rfl | rfl
      · exact ra1.ex (hid_of sa1)
      · exact ra2.ex (hid_of sa2)
      · exact ra3.ex (hid_of sa3)
      · exact ra4.ex (hid_of sa4)
      · exact ra5.ex (hid_of sa5)
      · exact ra6.ex (hid_of sa6)
    obtain ⟨o1, xs1, rfl, no1, e3, ho1, xl1, hx1⟩ := hC
    have b3 := b1.ex e3
    try simp only [List.set_cons_zero, List.set_cons_succ]
    refine seq_asg (fun v G => ∃ (o : Addr) (xs : List V), v = .ref o ∧ o ≠ b ∧ Ex H3 G ∧ G o = some (.lst xs) ∧ xs.length = 12 ∧ ∀ x ∈ xs, ElX (hidB b G) x) (fun R hR => ?_) (fun v H4 hC => ?_)
    · walk_at "sx"
      refine ⟨sz_ok (by omega), fun zb1 mb1 => ?_⟩
      have eb1 := Ex.new mb1 (o := HO.tup [V.int x, V.int y, V.int y])
      have hb1 := upd_same (H := H3) (a := zb1) (o := HO.tup [V.int x, V.int y, V.int y])
      generalize upd H3 zb1 (HO.tup [V.int x, V.int y, V.int y]) = Gb1 at eb1 hb1 ⊢
      have nb1 : zb1 ≠ b := (b3.ex (Ex.refl H3)).apart mb1
      have rb1 : ElX (hidB b Gb1) (.ref zb1) := el_tup (hid_at nb1 hb1) (.cons (.int x) (.cons (.int y) (.cons (.int y) .nil))) (fun d m => by simp only [List.mem_cons, List.mem_nil_iff, or_false] at m; rcases m with rfl | rfl | rfl <;> exact g_int (ab40 (by omega))) (by simp) rfl
      refine ⟨?_, ?_⟩
      · exact Nat.lt_of_lt_of_le (log2_small (k := 200) (by decide) (by omega)) (by decide)
      refine ⟨sz_ok (by omega), fun zb2 mb2 => ?_⟩
      have eb2 := Ex.new mb2 (o := HO.tup [V.str (Str.ofString (toString x)), V.int y])
      have hb2 := upd_same (H := Gb1) (a := zb2) (o := HO.tup [V.str (Str.ofString (toString x)), V.int y])
      generalize upd Gb1 zb2 (HO.tup [V.str (Str.ofString (toString x)), V.int y]) = Gb2 at eb2 hb2 ⊢
      have nb2 : zb2 ≠ b := (b3.ex (eb1)).apart mb2
      have rb2 : ElX (hidB b Gb2) (.ref zb2) := el_tup (hid_at nb2 hb2) (.cons (.str _) (.cons (.int y) .nil)) (fun d m => by simp only [List.mem_cons, List.mem_nil_iff, or_false] at m; rcases m with rfl | rfl <;> first | exact g_int (ab40 (by omega)) | exact g_non | exact g_bl _ | exact g_one (ab40 (by omega)) | exact (g_str (by omega)).1) (by simp) (by show (PyData.canLay0 (.str (Str.ofString (toString x))) && true) = true; rw [(g_str (by omega)).2]; rfl)
      refine ⟨sz_ok (by omega), fun zb3 mb3 => ?_⟩
      have eb3 := Ex.new mb3 (o := HO.lst [V.int y])
      have hb3 := upd_same (H := Gb2) (a := zb3) (o := HO.lst [V.int y])
      generalize upd Gb2 zb3 (HO.lst [V.int y]) = Gb3 at eb3 hb3 ⊢
      have nb3 : zb3 ≠ b := (b3.ex ((eb1.trans eb2))).apart mb3
      refine ⟨sz_ok (by omega), fun zb4 mb4 => ?_⟩
      have eb4 := Ex.new mb4 (o := HO.tup [V.int x, V.ref zb3])
      have hb4 := upd_same (H := Gb3) (a := zb4) (o := HO.tup [V.int x, V.ref zb3])
      generalize upd Gb3 zb4 (HO.tup [V.int x, V.ref zb3]) = Gb4 at eb4 hb4 ⊢
      have nb4 : zb4 ≠ b := (b3.ex (((eb1.trans eb2).trans eb3))).apart mb4
      have rb4 : ElX (hidB b Gb4) (.ref zb4) := el_tup (ds := [.int x, .list [.int y]]) (hid_at nb4 hb4) (.cons (.int x) (.cons (.lst (hid_at nb3 (eb4 _ _ hb3)) (.cons (.int y) .nil)) .nil)) (fun d m => by simp only [List.mem_cons, List.mem_nil_iff, or_false] at m; rcases m with rfl | rfl <;> first | exact g_int (ab40 (by omega)) | exact g_non | exact g_bl _ | exact g_one (ab40 (by omega)) | exact (g_str (by omega)).1) (by simp) rfl
      refine ⟨sz_ok (by omega), fun zb5 mb5 => ?_⟩
      have eb5 := Ex.new mb5 (o := HO.tup [V.int (-2), V.int y])
      have hb5 := upd_same (H := Gb4) (a := zb5) (o := HO.tup [V.int (-2), V.int y])
      generalize upd Gb4 zb5 (HO.tup [V.int (-2), V.int y]) = Gb5 at eb5 hb5 ⊢
      have nb5 : zb5 ≠ b := (b3.ex ((((eb1.trans eb2).trans eb3).trans eb4))).apart mb5
      have rb5 : ElX (hidB b Gb5) (.ref zb5) := el_pair (hid_at nb5 hb5) (ab40 (by omega)) (ab40 (by omega))
      refine ⟨sz_ok (by omega), fun zb6 mb6 => ?_⟩
      have eb6 := Ex.new mb6 (o := HO.lst [V.non, V.ref zb1, V.ref zb2, V.ref zb4, V.int x, V.ref zb5])
      have hb6 := upd_same (H := Gb5) (a := zb6) (o := HO.lst [V.non, V.ref zb1, V.ref zb2, V.ref zb4, V.int x, V.ref zb5])
      generalize upd Gb5 zb6 (HO.lst [V.non, V.ref zb1, V.ref zb2, V.ref zb4, V.int x, V.ref zb5]) = Gb6 at eb6 hb6 ⊢
      have nb6 : zb6 ≠ b := (b3.ex (((((eb1.trans eb2).trans eb3).trans eb4).trans eb5))).apart mb6
      have Qb := (((((eb1.trans eb2).trans eb3).trans eb4).trans eb5).trans eb6)
      refine catE (Qb _ _ ho1) hb6 (by rw [xl1]; simp) fun zb7 Gb7 mb7 eb7 hb7 => ?_
      have nb7 : zb7 ≠ b := (b3.ex ((((((eb1.trans eb2).trans eb3).trans eb4).trans eb5).trans eb6))).apart mb7
      have sb7 := Ex.refl Gb7
      have sb6 := eb7.trans sb7
      have sb5 := eb6.trans sb6
      have sb4 := eb5.trans sb5
      have sb3 := eb4.trans sb4
      have sb2 := eb3.trans sb3
      have sb1 := eb2.trans sb2
      have Eb := eb1.trans sb1
      refine hR _ _ ⟨zb7, _, rfl, nb7, Eb, hb7, by rw [List.length_append, xl1]; rfl, fun v hv => ?_⟩
      rcases List.mem_append.mp hv with hv | hv
      · exact (hx1 v hv).ex (hid_of Eb)
      simp only [List.mem_cons, List.mem_nil_iff, or_false] at hv
      rcases hv with rfl | rfl | rfl | rfl | rfl | rfl
      · exact ⟨_, .non, Gd.non.mono (by omega) (by omega), rfl⟩
      · exact rb1.ex (hid_of sb1)
      · exact rb2.ex (hid_of sb2)
      · exact rb4.ex (hid_of sb4)
      · exact ⟨_, .int x, (Gd.int (ab40 (by omega))).mono (by omega) (by omega), rfl⟩
      · exact rb5.ex (hid_of sb5)
    obtain ⟨o2, xs2, rfl, no2, e4, ho2, xl2, hx2⟩ := hC
    have b4 := b3.ex e4
    try simp only [List.set_cons_zero, List.set_cons_succ]
    refine seq_asg (fun v G => ∃ (o : Addr) (xs : List V), v = .ref o ∧ o ≠ b ∧ Ex H4 G ∧ G o = some (.lst xs) ∧ xs.length = 14 ∧ ∀ x ∈ xs, ElX (hidB b G) x) (fun R hR => ?_) (fun v H5 hC => ?_)
    · walk_at "sx"
      refine ⟨sz_ok (by omega), fun zc1 mc1 => ?_⟩
      have ec1 := Ex.new mc1 (o := HO.tup [V.bl true, V.int y])
      have hc1 := upd_same (H := H4) (a := zc1) (o := HO.tup [V.bl true, V.int y])
      generalize upd H4 zc1 (HO.tup [V.bl true, V.int y]) = Gc1 at ec1 hc1 ⊢
      have nc1 : zc1 ≠ b := (b4.ex (Ex.refl H4)).apart mc1
      have rc1 : ElX (hidB b Gc1) (.ref zc1) := el_tup (hid_at nc1 hc1) (.cons (.bl true) (.cons (.int y) .nil)) (fun d m => by simp only [List.mem_cons, List.mem_nil_iff, or_false] at m; rcases m with rfl | rfl <;> first | exact g_int (ab40 (by omega)) | exact g_non | exact g_bl _ | exact g_one (ab40 (by omega)) | exact (g_str (by omega)).1) (by simp) rfl
      refine ⟨sz_ok (by omega), fun zc2 mc2 => ?_⟩
      have ec2 := Ex.new mc2 (o := HO.tup [])
      have hc2 := upd_same (H := Gc1) (a := zc2) (o := HO.tup [])
      generalize upd Gc1 zc2 (HO.tup []) = Gc2 at ec2 hc2 ⊢
      have nc2 : zc2 ≠ b := (b4.ex (ec1)).apart mc2
      have rc2 : ElX (hidB b Gc2) (.ref zc2) := el_tup (hid_at nc2 hc2) .nil (fun d m => by simp at m) (by simp) rfl
      refine ⟨sz_ok (by omega), fun zc3 mc3 => ?_⟩
      have ec3 := Ex.new mc3 (o := HO.lst [V.ref zc1, V.ref zc2])
      have hc3 := upd_same (H := Gc2) (a := zc3) (o := HO.lst [V.ref zc1, V.ref zc2])
      generalize upd Gc2 zc3 (HO.lst [V.ref zc1, V.ref zc2]) = Gc3 at ec3 hc3 ⊢
      have nc3 : zc3 ≠ b := (b4.ex ((ec1.trans ec2))).apart mc3
      have Qc := ((ec1.trans ec2).trans ec3)
      refine catE (Qc _ _ ho2) hc3 (by rw [xl2]; simp) fun zc4 Gc4 mc4 ec4 hc4 => ?_
      have nc4 : zc4 ≠ b := (b4.ex (((ec1.trans ec2).trans ec3))).apart mc4
      have sc4 := Ex.refl Gc4
      have sc3 := ec4.trans sc4
      have sc2 := ec3.trans sc3
      have sc1 := ec2.trans sc2
      have Ec := ec1.trans sc1
      refine hR _ _ ⟨zc4, _, rfl, nc4, Ec, hc4, by rw [List.length_append, xl2]; rfl, fun v hv => ?_⟩
      rcases List.mem_append.mp hv with hv | hv
      · exact (hx2 v hv).ex (hid_of Ec)
      simp only [List.mem_cons, List.mem_nil_iff, or_false] at hv
      rcases hv with rfl | rfl
      · exact rc1.ex (hid_of sc1)
      · exact rc2.ex (hid_of sc2)
    obtain ⟨o3, xs3, rfl, no3, e5, ho3, xl3, hx3⟩ := hC
    have b5 := b4.ex e5
    try simp only [List.set_cons_zero, List.set_cons_succ]
    refine seq_asg (fun v G => Fx b H5 G ∧ BagAt G b (c + 4) ∧ ElX (hidB b G) v) (fun R hR => ?_) (fun bd H6 hC => ?_)
    · walk_at "sx"
      refine ⟨b, _, _, rfl, by omega, big_of (by omega), b5, by omega, fun r G r0 r1 f c' => ?_⟩
      have hr : xs3[r.toNat]? = some (xs3[r.toNat]'(by omega)) := List.getElem?_eq_getElem (by omega)
      generalize xs3[r.toNat]'(by omega) = bd at hr
      refine ixL (.inl (.inl (f _ _ no3 ho3))) (atI_n (j := r.toNat) (by omega) hr) ?_
      exact hR _ _ ⟨f, c', (hx3 bd (List.mem_of_getElem? hr)).ex (hid_fx f)⟩
    obtain ⟨f6, b6, hbd⟩ := hC
    try simp only [List.set_cons_zero, List.set_cons_succ]
    have F6 := (Fx.of ((e3.trans e4).trans e5) (b := b)).trans f6
    have ha6 := F6 _ _ nab ha1
    have hts6 : ∀ i u, ts[i]? = some u → PairAt H6 u ((exs row).getD i (0, 0)) := fun i u hu => F6 _ _ (ntb u (List.mem_of_getElem? hu)) (hts1 i u hu)
    have hel : ∀ v ∈ ts.map V.ref, ElX (hidB b H6) v := fun v hv => by
      obtain ⟨t, ht, rfl⟩ := List.mem_map.mp hv
      obtain ⟨k', hk1, hk2⟩ := List.getElem_of_mem ht
      have ht' := List.getElem?_eq_some_iff.mpr ⟨hk1, hk2⟩
      have hq' := hpg _ (List.mem_of_getElem? (hget k' (by omega)))
      exact el_pair (hid_at (ntb t ht) (pr_ev (hts6 k' t ht'))) (ab40 (by omega)) (ab40 (by omega))
    clear hx1 hx2 hx3 ho1 ho2 ho3
    refine seq_asg (fun v G => ∃ o : Addr, v = .ref o ∧ Ex H6 G ∧ H6 o = none ∧ G o = some (.lst (ts.map V.ref))) (fun R hR => ?_) (fun v H7 hC => ?_)
    · walk_at "sx"
      refine ⟨a, _, rfl, .inl (.inl (.inl ha6)), fun o no => ?_⟩
      exact hR _ _ ⟨o, rfl, Ex.new no, no, upd_same⟩
    obtain ⟨sw, rfl, e7, nsw, hsw⟩ := hC
    try simp only [List.set_cons_zero, List.set_cons_succ]
    have nswb : sw ≠ b := b6.apart nsw
    obtain ⟨ti, hti⟩ : ∃ t, ts[i]? = some t := ⟨_, List.getElem?_eq_getElem (by omega)⟩
    obtain ⟨tj, htj⟩ : ∃ t, ts[j]? = some t := ⟨_, List.getElem?_eq_getElem (by omega)⟩
    have ha7 := e7 _ _ ha6
    have nsa : sw ≠ a := fun e => by rw [e, ha6] at nsw; cases nsw
    refine seq_cut (fun σ' G => σ' = [some (.ref b), some (.int p), some (.ref a), some (.ref o3), some bd, some (.ref sw), none, none, none, none, some (.int i), some (.int j), some (.int n), some (.int x), some (.int y), none] ∧ Ex H6 G ∧ ∃ us : List Addr, us.length = ts.length ∧ (∀ u ∈ us, u ∈ ts) ∧ G sw = some (.lst (us.map V.ref))) (fun N hN => ?_) (fun σ8 H8 hC => ?_)
    · walk_at "sx"
      refine ixL (.inl (.inl ha7)) (atI_n (j := j) rfl (by rw [List.getElem?_map, htj]; rfl)) ?_
      refine ixL (.inl (.inl ha7)) (atI_n (j := i) rfl (by rw [List.getElem?_map, hti]; rfl)) ?_
      refine ⟨sz_ok (by omega), fun T nT => ?_⟩
      have eT := Ex.new nT (o := .tup [V.ref tj, V.ref ti])
      refine ⟨T, _, rfl, .inl (.inl upd_same), rfl, _, _, rfl, ?_⟩
      walk_at "sx"
      refine setL (j := i) (eT _ _ hsw) (ixN_nat (by rw [List.length_map]; omega)) ?_
      refine ⟨_, _, rfl, ?_⟩
      walk_at "sx"
      refine setL (j := j) upd_same (ixN_nat (by rw [List.length_set, List.length_map]; omega)) ?_
      refine ⟨rfl, ?_⟩
      refine hN _ _ ⟨rfl, ((e7.trans eT).mut nsw).mut nsw, (ts.set i tj).set j ti, by rw [List.length_set, List.length_set], fun u hu => ?_, by rw [upd_same, List.map_set, List.map_set]⟩
      rcases List.mem_or_eq_of_mem_set hu with hu | rfl
      · rcases List.mem_or_eq_of_mem_set hu with hu | rfl
        · exact hu
        · exact List.mem_of_getElem? htj
      · exact List.mem_of_getElem? hti
    obtain ⟨rfl, e8, us, usl, usm, hsw8⟩ := hC
    clear hsw e7 ha7
    have ha8 := e8 _ _ ha6
    have b8 := b6.ex e8
    have hel8 : ∀ v ∈ ts.map V.ref, ElX (hidB b H8) v := fun v hv => (hel v hv).ex (hid_of e8)
    have hbd8 := hbd.ex (hid_of e8)
    have hus : ∀ v ∈ us.map V.ref, ElX (hidB b H8) v := fun v hv => by
      obtain ⟨t, ht, rfl⟩ := List.mem_map.mp hv
      exact hel8 _ (List.mem_map.mpr ⟨t, usm t ht, rfl⟩)
    refine seq_asg (fun v G => ∃ (o : Addr) (xs : List V), v = .ref o ∧ o ≠ b ∧ Ex H8 G ∧ G o = some (.lst xs) ∧ xs.length = 4 ∧ ∀ x ∈ xs, RowX (hidB b G) x) (fun R hR => ?_) (fun v H9 hC => ?_)
    · walk_at "sx"
      have memE : ∀ (u w : List V), (∀ m ∈ u, m ∈ ts.map V.ref) → (∀ m ∈ w, m ∈ ts.map V.ref) → ∀ (el : V) (G : Hp), Ex (hidB b H8) (hidB b G) → ElX (hidB b G) el → ∀ v ∈ u ++ [el] ++ w, ElX (hidB b G) v := fun u w hu hw el G e he v hv => by
        rcases List.mem_append.mp hv with hv | hv
        · rcases List.mem_append.mp hv with hv | hv
          · exact (hel8 v (hu v hv)).ex e
          · rw [List.mem_singleton.mp hv]; exact he
        · exact (hel8 v (hw v hv)).ex e
      refine slXE (.inl (.inl ((Ex.refl H8) _ _ ha8))) fun zd1 Gd1 yd1 md1 ed1 hd1 qd1 ld1 pd1 => ?_
      have nd1 : zd1 ≠ b := (b8.ex (Ex.refl H8)).apart md1
      refine ⟨sz_ok (by omega), fun zd2 md2 => ?_⟩
      have ed2 := Ex.new md2 (o := HO.lst [bd])
      have hd2 := upd_same (H := Gd1) (a := zd2) (o := HO.lst [bd])
      generalize upd Gd1 zd2 (HO.lst [bd]) = Gd2 at ed2 hd2 ⊢
      have nd2 : zd2 ≠ b := (b8.ex (ed1)).apart md2
      refine catE ((ed2) _ _ hd1) hd2 (by rw [List.length_map] at ld1; simp <;> omega) fun zd3 Gd3 md3 ed3 hd3 => ?_
      have nd3 : zd3 ≠ b := (b8.ex ((ed1.trans ed2))).apart md3
      refine slXE (.inl (.inl ((((ed1.trans ed2).trans ed3)) _ _ ha8))) fun zd4 Gd4 yd4 md4 ed4 hd4 qd4 ld4 pd4 => ?_
      have nd4 : zd4 ≠ b := (b8.ex (((ed1.trans ed2).trans ed3))).apart md4
      refine catE ((ed4) _ _ hd3) hd4 (by rw [List.length_map] at ld1 ld4; simp <;> omega) fun zd5 Gd5 md5 ed5 hd5 => ?_
      have nd5 : zd5 ≠ b := (b8.ex ((((ed1.trans ed2).trans ed3).trans ed4))).apart md5
      have rd5 : RowX (hidB b Gd5) (.ref zd5) := row_lst (hid_at nd5 hd5) (memE yd1 yd4 pd1 pd4 bd _ (hid_of (((((ed1.trans ed2).trans ed3).trans ed4).trans ed5))) (hbd8.ex (hid_of (((((ed1.trans ed2).trans ed3).trans ed4).trans ed5))))) (by rw [List.length_map] at ld1 ld4; simp <;> omega)
      refine slXE (.inl (.inl ((((((ed1.trans ed2).trans ed3).trans ed4).trans ed5)) _ _ ha8))) fun zd6 Gd6 yd6 md6 ed6 hd6 qd6 ld6 pd6 => ?_
      have nd6 : zd6 ≠ b := (b8.ex (((((ed1.trans ed2).trans ed3).trans ed4).trans ed5))).apart md6
      refine ⟨sz_ok (by omega), fun zd7 md7 => ?_⟩
      have ed7 := Ex.new md7 (o := HO.lst [bd])
      have hd7 := upd_same (H := Gd6) (a := zd7) (o := HO.lst [bd])
      generalize upd Gd6 zd7 (HO.lst [bd]) = Gd7 at ed7 hd7 ⊢
      have nd7 : zd7 ≠ b := (b8.ex ((((((ed1.trans ed2).trans ed3).trans ed4).trans ed5).trans ed6))).apart md7
      refine catE ((ed7) _ _ hd6) hd7 (by rw [List.length_map] at ld6; simp <;> omega) fun zd8 Gd8 md8 ed8 hd8 => ?_
      have nd8 : zd8 ≠ b := (b8.ex (((((((ed1.trans ed2).trans ed3).trans ed4).trans ed5).trans ed6).trans ed7))).apart md8
      refine slXE (.inl (.inl (((((((((ed1.trans ed2).trans ed3).trans ed4).trans ed5).trans ed6).trans ed7).trans ed8)) _ _ ha8))) fun zd9 Gd9 yd9 md9 ed9 hd9 qd9 ld9 pd9 => ?_
      have nd9 : zd9 ≠ b := (b8.ex ((((((((ed1.trans ed2).trans ed3).trans ed4).trans ed5).trans ed6).trans ed7).trans ed8))).apart md9
      refine catE ((ed9) _ _ hd8) hd9 (by rw [List.length_map] at ld6 ld9; simp <;> omega) fun zd10 Gd10 md10 ed10 hd10 => ?_
      have nd10 : zd10 ≠ b := (b8.ex (((((((((ed1.trans ed2).trans ed3).trans ed4).trans ed5).trans ed6).trans ed7).trans ed8).trans ed9))).apart md10
      have rd10 : RowX (hidB b Gd10) (.ref zd10) := row_lst (hid_at nd10 hd10) (memE yd6 yd9 pd6 pd9 bd _ (hid_of ((((((((((ed1.trans ed2).trans ed3).trans ed4).trans ed5).trans ed6).trans ed7).trans ed8).trans ed9).trans ed10))) (hbd8.ex (hid_of ((((((((((ed1.trans ed2).trans ed3).trans ed4).trans ed5).trans ed6).trans ed7).trans ed8).trans ed9).trans ed10))))) (by rw [List.length_map] at ld6 ld9; simp <;> omega)
      refine ixL (.inl (.inl (((((((((((ed1.trans ed2).trans ed3).trans ed4).trans ed5).trans ed6).trans ed7).trans ed8).trans ed9).trans ed10)) _ _ ha8))) (atI_n (j := i) rfl (by rw [List.getElem?_map, hti]; rfl)) ?_
      refine ⟨sz_ok (by omega), fun zd11 md11 => ?_⟩
      have ed11 := Ex.new md11 (o := HO.lst [V.ref ti])
      have hd11 := upd_same (H := Gd10) (a := zd11) (o := HO.lst [V.ref ti])
      generalize upd Gd10 zd11 (HO.lst [V.ref ti]) = Gd11 at ed11 hd11 ⊢
      have nd11 : zd11 ≠ b := (b8.ex ((((((((((ed1.trans ed2).trans ed3).trans ed4).trans ed5).trans ed6).trans ed7).trans ed8).trans ed9).trans ed10))).apart md11
      refine catE ((((((((((((ed1.trans ed2).trans ed3).trans ed4).trans ed5).trans ed6).trans ed7).trans ed8).trans ed9).trans ed10).trans ed11)) _ _ ha8) hd11 (by rw [List.length_map]; simp <;> omega) fun zd12 Gd12 md12 ed12 hd12 => ?_
      have nd12 : zd12 ≠ b := (b8.ex (((((((((((ed1.trans ed2).trans ed3).trans ed4).trans ed5).trans ed6).trans ed7).trans ed8).trans ed9).trans ed10).trans ed11))).apart md12
      have E4 := (((((((((((ed1.trans ed2).trans ed3).trans ed4).trans ed5).trans ed6).trans ed7).trans ed8).trans ed9).trans ed10).trans ed11).trans ed12)
      have rd12 : RowX (hidB b Gd12) (.ref zd12) := row_lst (hid_at nd12 hd12) (fun v hv => by
        rcases List.mem_append.mp hv with hv | hv
        · exact (hel8 v hv).ex (hid_of E4)
        · rw [List.mem_singleton.mp hv]
          exact (hel8 _ (List.mem_map.mpr ⟨ti, List.mem_of_getElem? hti, rfl⟩)).ex (hid_of E4)) (by simp <;> omega)
      refine ⟨sz_ok (by omega), fun zd13 md13 => ?_⟩
      have ed13 := Ex.new md13 (o := HO.lst [V.ref zd5, V.ref zd10, V.ref sw, V.ref zd12])
      have hd13 := upd_same (H := Gd12) (a := zd13) (o := HO.lst [V.ref zd5, V.ref zd10, V.ref sw, V.ref zd12])
      generalize upd Gd12 zd13 (HO.lst [V.ref zd5, V.ref zd10, V.ref sw, V.ref zd12]) = Gd13 at ed13 hd13 ⊢
      have nd13 : zd13 ≠ b := (b8.ex ((((((((((((ed1.trans ed2).trans ed3).trans ed4).trans ed5).trans ed6).trans ed7).trans ed8).trans ed9).trans ed10).trans ed11).trans ed12))).apart md13
      have sd13 := Ex.refl Gd13
      have sd12 := ed13.trans sd13
      have sd11 := ed12.trans sd12
      have sd10 := ed11.trans sd11
      have sd9 := ed10.trans sd10
      have sd8 := ed9.trans sd9
      have sd7 := ed8.trans sd8
      have sd6 := ed7.trans sd7
      have sd5 := ed6.trans sd6
      have sd4 := ed5.trans sd5
      have sd3 := ed4.trans sd4
      have sd2 := ed3.trans sd3
      have sd1 := ed2.trans sd2
      have Ed := ed1.trans sd1
      refine hR _ _ ⟨zd13, _, rfl, nd13, Ed, hd13, rfl, fun v hv => ?_⟩
      simp only [List.mem_cons, List.mem_nil_iff, or_false] at hv
      rcases hv with rfl | rfl | rfl | rfl
      · exact rd5.ex (hid_of sd5)
      · exact rd10.ex (hid_of sd10)
      · exact row_lst (hid_at nswb (Ed _ _ hsw8)) (fun v hv => (hus v hv).ex (hid_of Ed)) (by rw [List.length_map]; omega)
      · exact rd12.ex (hid_of sd12)
    obtain ⟨o9, xs9, rfl, no9, e9, ho9, xl9, hx9⟩ := hC
    have ha9 := e9 _ _ ha8
    have b9 := b8.ex e9
    have hel9 : ∀ v ∈ ts.map V.ref, ElX (hidB b H9) v := fun v hv => (hel8 v hv).ex (hid_of e9)
    have hts9 : ∀ i u, ts[i]? = some u → PairAt H9 u ((exs row).getD i (0, 0)) := fun i u hu => (e8.trans e9) _ _ (hts6 i u hu)
    clear hbd8 hsw8 hus hel8 hel hbd
    try simp only [List.set_cons_zero, List.set_cons_succ]
    refine seq_asg (fun v G => ∃ (o : Addr) (xs : List V) (Gp : Hp), v = .ref o ∧ o ≠ b ∧ Ex H9 Gp ∧ Gp o = none ∧ Ex Gp G ∧ G o = some (.lst xs) ∧ xs.length = 7 ∧ ∀ x ∈ xs, RowX (hidB b Gp) x) (fun R hR => ?_) (fun v H10 hC => ?_)
    · walk_at "sx"
      have memE : ∀ (u w : List V), (∀ m ∈ u, m ∈ ts.map V.ref) → (∀ m ∈ w, m ∈ ts.map V.ref) → ∀ (el : V) (G : Hp), Ex (hidB b H9) (hidB b G) → ElX (hidB b G) el → ∀ v ∈ u ++ [el] ++ w, ElX (hidB b G) v := fun u w hu hw el G e he v hv => by
        rcases List.mem_append.mp hv with hv | hv
        · rcases List.mem_append.mp hv with hv | hv
          · exact (hel9 v (hu v hv)).ex e
          · rw [List.mem_singleton.mp hv]; exact he
        · exact (hel9 v (hw v hv)).ex e
      refine slXE (.inl (.inl ((Ex.refl H9) _ _ ha9))) fun zf1 Gf1 yf1 mf1 ef1 hf1 qf1 lf1 pf1 => ?_
      have nf1 : zf1 ≠ b := (b9.ex (Ex.refl H9)).apart mf1
      refine slXE (.inl (.inl ((ef1) _ _ ha9))) fun zf2 Gf2 yf2 mf2 ef2 hf2 qf2 lf2 pf2 => ?_
      have nf2 : zf2 ≠ b := (b9.ex (ef1)).apart mf2
      refine catE ((ef2) _ _ hf1) hf2 (by rw [List.length_map] at lf1 lf2; omega) fun zf3 Gf3 mf3 ef3 hf3 => ?_
      have nf3 : zf3 ≠ b := (b9.ex ((ef1.trans ef2))).apart mf3
      have E1 := ((ef1.trans ef2).trans ef3)
      have rf3 : RowX (hidB b Gf3) (.ref zf3) := row_lst (hid_at nf3 hf3) (fun v hv => by
        rcases List.mem_append.mp hv with hv | hv
        · exact (hel9 v (pf1 v hv)).ex (hid_of E1)
        · exact (hel9 v (pf2 v hv)).ex (hid_of E1)) (by rw [List.length_map] at lf1 lf2; simp <;> omega)
      refine slXE (.inl (.inl ((((ef1.trans ef2).trans ef3)) _ _ ha9))) fun zf4 Gf4 yf4 mf4 ef4 hf4 qf4 lf4 pf4 => ?_
      have nf4 : zf4 ≠ b := (b9.ex (((ef1.trans ef2).trans ef3))).apart mf4
      refine ixL (.inl (.inl (((((ef1.trans ef2).trans ef3).trans ef4)) _ _ ha9))) (atI_n (j := j) rfl (by rw [List.getElem?_map, htj]; rfl)) ?_
      have htj' := ((((ef1.trans ef2).trans ef3).trans ef4)) _ _ (pr_ev (hts9 j tj htj))
      refine ⟨tj, _, _, _, rfl, rfl, .inl (.inl htj'), atI_n (j := 0) rfl rfl, ?_⟩
      have hqj := hpg _ (List.mem_of_getElem? (hget j hj))
      generalize ((exs row).getD j (0, 0)).1 = xj at hqj ⊢
      refine ⟨sz_ok (by omega), fun zf5 mf5 => ?_⟩
      have ef5 := Ex.new mf5 (o := HO.tup [V.int x, V.int xj])
      have hf5 := upd_same (H := Gf4) (a := zf5) (o := HO.tup [V.int x, V.int xj])
      generalize upd Gf4 zf5 (HO.tup [V.int x, V.int xj]) = Gf5 at ef5 hf5 ⊢
      have nf5 : zf5 ≠ b := (b9.ex ((((ef1.trans ef2).trans ef3).trans ef4))).apart mf5
      refine ⟨sz_ok (by omega), fun zf6 mf6 => ?_⟩
      have ef6 := Ex.new mf6 (o := HO.lst [V.ref zf5])
      have hf6 := upd_same (H := Gf5) (a := zf6) (o := HO.lst [V.ref zf5])
      generalize upd Gf5 zf6 (HO.lst [V.ref zf5]) = Gf6 at ef6 hf6 ⊢
      have nf6 : zf6 ≠ b := (b9.ex (((((ef1.trans ef2).trans ef3).trans ef4).trans ef5))).apart mf6
      refine catE (((ef5.trans ef6)) _ _ hf4) hf6 (by rw [List.length_map] at lf4; simp <;> omega) fun zf7 Gf7 mf7 ef7 hf7 => ?_
      have nf7 : zf7 ≠ b := (b9.ex ((((((ef1.trans ef2).trans ef3).trans ef4).trans ef5).trans ef6))).apart mf7
      refine slXE (.inl (.inl ((((((((ef1.trans ef2).trans ef3).trans ef4).trans ef5).trans ef6).trans ef7)) _ _ ha9))) fun zf8 Gf8 yf8 mf8 ef8 hf8 qf8 lf8 pf8 => ?_
      have nf8 : zf8 ≠ b := (b9.ex (((((((ef1.trans ef2).trans ef3).trans ef4).trans ef5).trans ef6).trans ef7))).apart mf8
      refine catE ((ef8) _ _ hf7) hf8 (by rw [List.length_map] at lf4 lf8; simp <;> omega) fun zf9 Gf9 mf9 ef9 hf9 => ?_
      have nf9 : zf9 ≠ b := (b9.ex ((((((((ef1.trans ef2).trans ef3).trans ef4).trans ef5).trans ef6).trans ef7).trans ef8))).apart mf9
      have rf9 : RowX (hidB b Gf9) (.ref zf9) := row_lst (hid_at nf9 hf9) (memE yf4 yf8 pf4 pf8 _ _ (hid_of (((((((((ef1.trans ef2).trans ef3).trans ef4).trans ef5).trans ef6).trans ef7).trans ef8).trans ef9))) (el_pair (hid_at nf5 (((((ef6.trans ef7).trans ef8).trans ef9)) _ _ hf5)) (ab40 (by omega)) (ab40 (by omega)))) (by rw [List.length_map] at lf4 lf8; simp <;> omega)
      refine ⟨_, .inl (.inl ((((((((((ef1.trans ef2).trans ef3).trans ef4).trans ef5).trans ef6).trans ef7).trans ef8).trans ef9)) _ _ ha9)), ?_⟩
      refine fun zf10 mf10 => ?_
      have ef10 := Ex.new mf10 (o := HO.lst (ts.map V.ref).reverse)
      have hf10 := upd_same (H := Gf9) (a := zf10) (o := HO.lst (ts.map V.ref).reverse)
      generalize upd Gf9 zf10 (HO.lst (ts.map V.ref).reverse) = Gf10 at ef10 hf10 ⊢
      have nf10 : zf10 ≠ b := (b9.ex (((((((((ef1.trans ef2).trans ef3).trans ef4).trans ef5).trans ef6).trans ef7).trans ef8).trans ef9))).apart mf10
      have E3 := (((((((((ef1.trans ef2).trans ef3).trans ef4).trans ef5).trans ef6).trans ef7).trans ef8).trans ef9).trans ef10)
      have rf10 : RowX (hidB b Gf10) (.ref zf10) := row_lst (hid_at nf10 hf10) (fun v hv => (hel9 v (List.mem_reverse.mp hv)).ex (hid_of E3)) (by rw [List.length_reverse, List.length_map]; omega)
      refine ⟨sz_ok (by omega), fun zf11 mf11 => ?_⟩
      have ef11 := Ex.new mf11 (o := HO.lst [V.ref zf3, V.ref zf9, V.ref zf10])
      have hf11 := upd_same (H := Gf10) (a := zf11) (o := HO.lst [V.ref zf3, V.ref zf9, V.ref zf10])
      generalize upd Gf10 zf11 (HO.lst [V.ref zf3, V.ref zf9, V.ref zf10]) = Gf11 at ef11 hf11 ⊢
      have nf11 : zf11 ≠ b := (b9.ex ((((((((((ef1.trans ef2).trans ef3).trans ef4).trans ef5).trans ef6).trans ef7).trans ef8).trans ef9).trans ef10))).apart mf11
      have sf11 := Ex.refl Gf11
      have sf10 := ef11.trans sf11
      have sf9 := ef10.trans sf10
      have sf8 := ef9.trans sf9
      have sf7 := ef8.trans sf8
      have sf6 := ef7.trans sf7
      have sf5 := ef6.trans sf6
      have sf4 := ef5.trans sf5
      have sf3 := ef4.trans sf4
      have sf2 := ef3.trans sf3
      have sf1 := ef2.trans sf2
      have Ef := ef1.trans sf1
      refine catE ((((((((((((ef1.trans ef2).trans ef3).trans ef4).trans ef5).trans ef6).trans ef7).trans ef8).trans ef9).trans ef10).trans ef11)) _ _ ho9) hf11 (by rw [xl9]; simp) fun zf12 Gf12 mf12 ef12 hf12 => ?_
      have nf12 : zf12 ≠ b := (b9.ex (((((((((((ef1.trans ef2).trans ef3).trans ef4).trans ef5).trans ef6).trans ef7).trans ef8).trans ef9).trans ef10).trans ef11))).apart mf12
      refine hR _ _ ⟨zf12, _, _, rfl, nf12, Ef, mf12, ef12, hf12, by rw [List.length_append, xl9]; rfl, fun v hv => ?_⟩
      rcases List.mem_append.mp hv with hv | hv
      · exact (hx9 v hv).ex (hid_of Ef)
      simp only [List.mem_cons, List.mem_nil_iff, or_false] at hv
      rcases hv with rfl | rfl | rfl
      · exact rf3.ex (hid_of sf3)
      · exact rf9.ex (hid_of sf9)
      · exact rf10.ex (hid_of sf10)
    obtain ⟨oo, xsA, Gp, rfl, noo, eA, nGo, eB, hoo, xlA, hxA⟩ := hC
    try simp only [List.set_cons_zero, List.set_cons_succ]
    have hid2 : ∀ {G G' : Hp}, Ex G G' → G oo = none → Ex (hidB b G) (hidB oo (hidB b G')) := fun e g c' o' hc' => by
      have h1 := hid_of (b := b) e _ _ hc'
      have h2 : c' ≠ oo := fun z => by rw [z] at hc'; have := hid_ex _ _ hc'; rw [g] at this; cases this
      rw [hid_ne h2]; exact h1
    have EAB := eA.trans eB
    have bA := b9.ex eA
    refine seq_cut (fun σ' G => ∃ (l7 : Option V) (xs : List V), σ' = [some (.ref b), some (.int p), some (.ref a), some (.ref o3), some bd, some (.ref sw), some (.ref oo), l7, none, none, some (.int i), some (.int j), some (.int n), some (.int x), some (.int y), none] ∧ Ex Gp G ∧ G oo = some (.lst xs) ∧ xs.length = 9 ∧ ∀ x ∈ xs, RowX (hidB b G) x) (fun N hN => ?_) (fun σ11 H11 hC => ?_)
    · walk_at "sx"
      refine ⟨sz_ok (by omega), fun z m => ?_⟩
      have ez := Ex.new m (o := .lst [V.int x, V.int n])
      have hz := upd_same (H := H10) (a := z) (o := .lst [V.int x, V.int n])
      generalize upd H10 z (.lst [V.int x, V.int n]) = Gz at ez hz ⊢
      have nzo : z ≠ oo := fun e => by rw [e, hoo] at m; cases m
      refine ⟨⟨_, .inl (.inl hz)⟩, ?_⟩
      refine lg_list (xs := [V.int x, V.int n]) (fun k' σ' G => ∃ (l7 : Option V) (xs : List V), σ' = [some (.ref b), some (.int p), some (.ref a), some (.ref o3), some bd, some (.ref sw), some (.ref oo), l7, none, none, some (.int i), some (.int j), some (.int n), some (.int x), some (.int y), none] ∧ Ex Gp G ∧ G z = some (.lst [V.int x, V.int n]) ∧ G oo = some (.lst xs) ∧ xs.length = 7 + k' ∧ ∀ x ∈ xs, RowX (hidB oo (hidB b G)) x) ⟨none, xsA, rfl, eB.trans ez, hz, ez _ _ hoo, by rw [xlA], fun v hv => (hxA v hv).ex (hid2 (eB.trans ez) nGo)⟩ (fun k' σ' G _ hP => by obtain ⟨_, _, _, _, e, _⟩ := hP; exact .inl (.inl e)) (fun k' v σ' G hv hP => ?_) (fun σ' G hP => ?_)
      · obtain ⟨l7, xs, rfl, eG, hzG, hoG, xl, hxG⟩ := hP
        have hk' : k' < 2 := (List.getElem?_eq_some_iff.mp hv).1
        obtain ⟨w', rfl, hw'⟩ : ∃ w' : Int, v = .int w' ∧ 0 ≤ w' ∧ w' < 40 := by
          have hk : k' < 2 := (List.getElem?_eq_some_iff.mp hv).1
          have hk2 : k' = 0 ∨ k' = 1 := by omega
          rcases hk2 with rfl | rfl
          · exact ⟨x, (Option.some.inj hv).symm, hqx⟩
          · exact ⟨n, (Option.some.inj hv).symm, n0, n1⟩
        have haG := eG _ _ (eA _ _ ha9)
        have bG := bA.ex eG
        walk_at "sx"
        refine ⟨tyL hoG, ?_⟩
        refine slXE (.inl (.inl haG)) fun zg1 Gg1 yg1 mg1 eg1 hg1 qg1 lg1 pg1 => ?_
        have ng1 : zg1 ≠ b := (bG.ex (Ex.refl G)).apart mg1
        refine ⟨sz_ok (by omega), fun zg2 mg2 => ?_⟩
        have eg2 := Ex.new mg2 (o := HO.tup [V.int x, V.int w'])
        have hg2 := upd_same (H := Gg1) (a := zg2) (o := HO.tup [V.int x, V.int w'])
        generalize upd Gg1 zg2 (HO.tup [V.int x, V.int w']) = Gg2 at eg2 hg2 ⊢
        have ng2 : zg2 ≠ b := (bG.ex (eg1)).apart mg2
        refine ⟨sz_ok (by omega), fun zg3 mg3 => ?_⟩
        have eg3 := Ex.new mg3 (o := HO.lst [V.ref zg2])
        have hg3 := upd_same (H := Gg2) (a := zg3) (o := HO.lst [V.ref zg2])
        generalize upd Gg2 zg3 (HO.lst [V.ref zg2]) = Gg3 at eg3 hg3 ⊢
        have ng3 : zg3 ≠ b := (bG.ex ((eg1.trans eg2))).apart mg3
        refine catE (((eg2.trans eg3)) _ _ hg1) hg3 (by rw [List.length_map] at lg1; simp <;> omega) fun zg4 Gg4 mg4 eg4 hg4 => ?_
        have ng4 : zg4 ≠ b := (bG.ex (((eg1.trans eg2).trans eg3))).apart mg4
        refine slXE (.inl (.inl (((((eg1.trans eg2).trans eg3).trans eg4)) _ _ haG))) fun zg5 Gg5 yg5 mg5 eg5 hg5 qg5 lg5 pg5 => ?_
        have ng5 : zg5 ≠ b := (bG.ex ((((eg1.trans eg2).trans eg3).trans eg4))).apart mg5
        refine catE ((eg5) _ _ hg4) hg5 (by rw [List.length_map] at lg1 lg5; simp <;> omega) fun zg6 Gg6 mg6 eg6 hg6 => ?_
        have ng6 : zg6 ≠ b := (bG.ex (((((eg1.trans eg2).trans eg3).trans eg4).trans eg5))).apart mg6
        have EG := (((((eg1.trans eg2).trans eg3).trans eg4).trans eg5).trans eg6)
        refine appL (EG _ _ hoG) (BC.sz_lt (by omega)) ?_
        have fr : ∀ {u : Addr} {Gu : Hp}, Ex G Gu → Gu u = none → u ≠ oo := fun eu hu e => by rw [e, eu _ _ hoG] at hu; cases hu
        have nw : zg6 ≠ oo := fr (((((eg1.trans eg2).trans eg3).trans eg4).trans eg5)) mg6
        have nt : zg2 ≠ oo := fr (eg1) mg2
        have Em := (eG.trans EG).mut (o := .lst (xs ++ [V.ref zg6])) nGo
        refine ⟨Em, by rw [upd_ne nzo]; exact EG _ _ hzG, xs ++ [V.ref zg6], upd_same, by rw [List.length_append, xl]; rfl, fun v hv => ?_⟩
        rcases List.mem_append.mp hv with hv | hv
        · exact (hxG v hv).ex fun c' o' hc' => by
              have h2 : c' ≠ oo := fun z => by rw [z] at hc'; unfold hidB at hc'; rw [if_pos rfl] at hc'; cases hc'
              have h3 : c' ≠ b := fun z => by rw [hid_ne h2] at hc'; rw [z] at hc'; unfold hidB at hc'; rw [if_pos rfl] at hc'; cases hc'
              rw [hid_ne h2, hid_ne h3] at hc'
              rw [hid_ne h2, hid_ne h3, upd_ne h2]
              exact EG _ _ hc'
        · rw [List.mem_singleton.mp hv]
          have hup : ∀ {u : Addr} {o' : HO}, u ≠ oo → u ≠ b → Gg6 u = some o' → hidB oo (hidB b (upd Gg6 oo (.lst (xs ++ [V.ref zg6])))) u = some o' := fun h1 h2 h3 => by rw [hid_ne h1, hid_ne h2, upd_ne h1]; exact h3
          have hel' : ∀ v ∈ ts.map V.ref, ElX (hidB oo (hidB b (upd Gg6 oo (.lst (xs ++ [V.ref zg6]))))) v := fun v hv => (hel9 v hv).ex ((hid_of eA).trans (hid2 Em nGo))
          refine row_lst (hup nw ng6 hg6) (fun v hv => ?_) (by rw [List.length_map] at lg1 lg5; simp <;> omega)
          rcases List.mem_append.mp hv with hv | hv
          · rcases List.mem_append.mp hv with hv | hv
            · exact hel' v (pg1 v hv)
            · rw [List.mem_singleton.mp hv]; exact el_pair (hup nt ng2 (((((eg3.trans eg4).trans eg5).trans eg6)) _ _ hg2)) (ab40 (by omega)) (ab40 (by omega))
          · exact hel' v (pg5 v hv)
      · obtain ⟨l7, xs, rfl, eG, hzG, hoG, xl, hxG⟩ := hP
        exact hN _ _ ⟨l7, xs, rfl, eG, hoG, by rw [xl]; rfl, fun v hv => (hxG v hv).ex hid_ex⟩
    obtain ⟨l7, xsB, rfl, eC, hoB, xlB, hxB⟩ := hC
    have E11 := eA.trans eC
    have ha11 := E11 _ _ ha9
    have b11 := b9.ex E11
    have hel11 : ∀ v ∈ ts.map V.ref, ElX (hidB b H11) v := fun v hv => (hel9 v hv).ex (hid_of E11)
    have hts11 : ∀ i u, ts[i]? = some u → PairAt H11 u ((exs row).getD i (0, 0)) := fun i u hu => E11 _ _ (hts9 i u hu)
    clear hxA hoo EAB eB
    try simp only [List.set_cons_zero, List.set_cons_succ]
    refine seq_asg (fun v G => ∃ (o : Addr) (xs : List V), v = .ref o ∧ o ≠ b ∧ Ex H11 G ∧ G o = some (.lst xs) ∧ xs.length = 12 ∧ ∀ x ∈ xs, RowX (hidB b G) x) (fun R hR => ?_) (fun v H12 hC => ?_)
    · walk_at "sx"
      refine ⟨sz_ok (by omega), fun zk1 mk1 => ?_⟩
      have ek1 := Ex.new mk1 (o := HO.tup [V.int n, V.int y])
      have hk1 := upd_same (H := H11) (a := zk1) (o := HO.tup [V.int n, V.int y])
      generalize upd H11 zk1 (HO.tup [V.int n, V.int y]) = Gk1 at ek1 hk1 ⊢
      have nk1 : zk1 ≠ b := (b11.ex (Ex.refl H11)).apart mk1
      refine ⟨sz_ok (by omega), fun zk2 mk2 => ?_⟩
      have ek2 := Ex.new mk2 (o := HO.lst [V.ref zk1])
      have hk2 := upd_same (H := Gk1) (a := zk2) (o := HO.lst [V.ref zk1])
      generalize upd Gk1 zk2 (HO.lst [V.ref zk1]) = Gk2 at ek2 hk2 ⊢
      have nk2 : zk2 ≠ b := (b11.ex (ek1)).apart mk2
      refine catE (((ek1.trans ek2)) _ _ ha11) hk2 (by rw [List.length_map]; simp <;> omega) fun zk3 Gk3 mk3 ek3 hk3 => ?_
      have nk3 : zk3 ≠ b := (b11.ex ((ek1.trans ek2))).apart mk3
      have memk3 : ∀ v ∈ ts.map V.ref ++ [V.ref zk1], ∃ t, v = V.ref t ∧ Gk3 t = some (.tup [.int (kOf Gk3 v).1, .int (kOf Gk3 v).2]) := fun v hv => by
        rcases List.mem_append.mp hv with hv | hv
        · obtain ⟨t, ht, rfl⟩ := List.mem_map.mp hv
          obtain ⟨k', hk1, hk2⟩ := List.getElem_of_mem ht
          exact kOf_at ((((ek1.trans ek2).trans ek3)) _ _ (pr_ev (hts11 k' t (List.getElem?_eq_some_iff.mpr ⟨hk1, hk2⟩))))
        · rw [List.mem_singleton.mp hv]; exact kOf_at (((ek2.trans ek3)) _ _ hk1)
      refine ⟨_, _, kOf Gk3, rfl, .inl (.inl hk3), fun v hv => ?_, fun yk4 zk4 tk4 uk4 mk4 => ?_⟩
      · exact memk3 v hv
      have ek4 := Ex.new mk4 (o := .lst yk4)
      have hk4 := upd_same (H := Gk3) (a := zk4) (o := .lst yk4)
      generalize upd Gk3 zk4 (.lst yk4) = Gk4 at ek4 hk4 ⊢
      have nk4 : zk4 ≠ b := (b11.ex (((ek1.trans ek2).trans ek3))).apart mk4
      have Ek4 := (((ek1.trans ek2).trans ek3).trans ek4)
      have rk4 : RowX (hidB b Gk4) (.ref zk4) := row_lst (hid_at nk4 hk4) (fun v hv => by
        rcases List.mem_append.mp (uk4.perm.mem_iff.mp hv) with hv | hv
        · exact (hel11 v hv).ex (hid_of Ek4)
        · rw [List.mem_singleton.mp hv]; exact el_pair (hid_at nk1 ((((ek2.trans ek3).trans ek4)) _ _ hk1)) (ab40 (by omega)) (ab40 (by omega))) (by rw [uk4.perm.length_eq, List.length_append, List.length_map]; simp <;> omega)
      refine ⟨sz_ok (by omega), fun zk5 mk5 => ?_⟩
      have ek5 := Ex.new mk5 (o := HO.tup [V.int n, V.int n])
      have hk5 := upd_same (H := Gk4) (a := zk5) (o := HO.tup [V.int n, V.int n])
      generalize upd Gk4 zk5 (HO.tup [V.int n, V.int n]) = Gk5 at ek5 hk5 ⊢
      have nk5 : zk5 ≠ b := (b11.ex ((((ek1.trans ek2).trans ek3).trans ek4))).apart mk5
      refine ⟨sz_ok (by omega), fun zk6 mk6 => ?_⟩
      have ek6 := Ex.new mk6 (o := HO.lst [V.ref zk5])
      have hk6 := upd_same (H := Gk5) (a := zk6) (o := HO.lst [V.ref zk5])
      generalize upd Gk5 zk6 (HO.lst [V.ref zk5]) = Gk6 at ek6 hk6 ⊢
      have nk6 : zk6 ≠ b := (b11.ex (((((ek1.trans ek2).trans ek3).trans ek4).trans ek5))).apart mk6
      refine catE (((((((ek1.trans ek2).trans ek3).trans ek4).trans ek5).trans ek6)) _ _ ha11) hk6 (by rw [List.length_map]; simp <;> omega) fun zk7 Gk7 mk7 ek7 hk7 => ?_
      have nk7 : zk7 ≠ b := (b11.ex ((((((ek1.trans ek2).trans ek3).trans ek4).trans ek5).trans ek6))).apart mk7
      have memk7 : ∀ v ∈ ts.map V.ref ++ [V.ref zk5], ∃ t, v = V.ref t ∧ Gk7 t = some (.tup [.int (kOf Gk7 v).1, .int (kOf Gk7 v).2]) := fun v hv => by
        rcases List.mem_append.mp hv with hv | hv
        · obtain ⟨t, ht, rfl⟩ := List.mem_map.mp hv
          obtain ⟨k', hk1, hk2⟩ := List.getElem_of_mem ht
          exact kOf_at ((((((((ek1.trans ek2).trans ek3).trans ek4).trans ek5).trans ek6).trans ek7)) _ _ (pr_ev (hts11 k' t (List.getElem?_eq_some_iff.mpr ⟨hk1, hk2⟩))))
        · rw [List.mem_singleton.mp hv]; exact kOf_at (((ek6.trans ek7)) _ _ hk5)
      refine ⟨_, _, kOf Gk7, rfl, .inl (.inl hk7), fun v hv => ?_, fun yk8 zk8 tk8 uk8 mk8 => ?_⟩
      · exact memk7 v hv
      have ek8 := Ex.new mk8 (o := .lst yk8)
      have hk8 := upd_same (H := Gk7) (a := zk8) (o := .lst yk8)
      generalize upd Gk7 zk8 (.lst yk8) = Gk8 at ek8 hk8 ⊢
      have nk8 : zk8 ≠ b := (b11.ex (((((((ek1.trans ek2).trans ek3).trans ek4).trans ek5).trans ek6).trans ek7))).apart mk8
      have Ek8 := (((((((ek1.trans ek2).trans ek3).trans ek4).trans ek5).trans ek6).trans ek7).trans ek8)
      have rk8 : RowX (hidB b Gk8) (.ref zk8) := row_lst (hid_at nk8 hk8) (fun v hv => by
        rcases List.mem_append.mp (uk8.perm.mem_iff.mp hv) with hv | hv
        · exact (hel11 v hv).ex (hid_of Ek8)
        · rw [List.mem_singleton.mp hv]; exact el_pair (hid_at nk5 ((((ek6.trans ek7).trans ek8)) _ _ hk5)) (ab40 (by omega)) (ab40 (by omega))) (by rw [uk8.perm.length_eq, List.length_append, List.length_map]; simp <;> omega)
      refine ⟨a, _, rfl, .inl ⟨.inl (.inl (((((((((ek1.trans ek2).trans ek3).trans ek4).trans ek5).trans ek6).trans ek7).trans ek8)) _ _ ha11)), ?_⟩⟩
      refine fun zk9 mk9 => ?_
      have ek9 := Ex.new mk9 (o := HO.tup (ts.map V.ref))
      have hk9 := upd_same (H := Gk8) (a := zk9) (o := HO.tup (ts.map V.ref))
      generalize upd Gk8 zk9 (HO.tup (ts.map V.ref)) = Gk9 at ek9 hk9 ⊢
      have nk9 : zk9 ≠ b := (b11.ex ((((((((ek1.trans ek2).trans ek3).trans ek4).trans ek5).trans ek6).trans ek7).trans ek8))).apart mk9
      have E3 := ((((((((ek1.trans ek2).trans ek3).trans ek4).trans ek5).trans ek6).trans ek7).trans ek8).trans ek9)
      have rk9 : RowX (hidB b Gk9) (.ref zk9) := row_tup (hid_at nk9 hk9) (fun v hv => (hel11 v hv).ex (hid_of E3)) (by rw [List.length_map]; omega)
      refine ⟨sz_ok (by omega), fun zk10 mk10 => ?_⟩
      have ek10 := Ex.new mk10 (o := HO.lst [V.ref zk4, V.ref zk8, V.ref zk9])
      have hk10 := upd_same (H := Gk9) (a := zk10) (o := HO.lst [V.ref zk4, V.ref zk8, V.ref zk9])
      generalize upd Gk9 zk10 (HO.lst [V.ref zk4, V.ref zk8, V.ref zk9]) = Gk10 at ek10 hk10 ⊢
      have nk10 : zk10 ≠ b := (b11.ex (((((((((ek1.trans ek2).trans ek3).trans ek4).trans ek5).trans ek6).trans ek7).trans ek8).trans ek9))).apart mk10
      refine catE (((((((((((ek1.trans ek2).trans ek3).trans ek4).trans ek5).trans ek6).trans ek7).trans ek8).trans ek9).trans ek10)) _ _ hoB) hk10 (by rw [xlB]; simp) fun zk11 Gk11 mk11 ek11 hk11 => ?_
      have nk11 : zk11 ≠ b := (b11.ex ((((((((((ek1.trans ek2).trans ek3).trans ek4).trans ek5).trans ek6).trans ek7).trans ek8).trans ek9).trans ek10))).apart mk11
      have sk11 := Ex.refl Gk11
      have sk10 := ek11.trans sk11
      have sk9 := ek10.trans sk10
      have sk8 := ek9.trans sk9
      have sk7 := ek8.trans sk8
      have sk6 := ek7.trans sk7
      have sk5 := ek6.trans sk6
      have sk4 := ek5.trans sk5
      have sk3 := ek4.trans sk4
      have sk2 := ek3.trans sk3
      have sk1 := ek2.trans sk2
      have Ek := ek1.trans sk1
      refine hR _ _ ⟨zk11, _, rfl, nk11, Ek, hk11, by rw [List.length_append, xlB]; rfl, fun v hv => ?_⟩
      rcases List.mem_append.mp hv with hv | hv
      · exact (hxB v hv).ex (hid_of Ek)
      simp only [List.mem_cons, List.mem_nil_iff, or_false] at hv
      rcases hv with rfl | rfl | rfl
      · exact rk4.ex (hid_of sk4)
      · exact rk8.ex (hid_of sk8)
      · exact rk9.ex (hid_of sk9)
    obtain ⟨o12, xs12, rfl, no12, e12, ho12, xl12, hx12⟩ := hC
    have ha12 := e12 _ _ ha11
    have b12 := b11.ex e12
    have hel12 : ∀ v ∈ ts.map V.ref, ElX (hidB b H12) v := fun v hv => (hel11 v hv).ex (hid_of e12)
    have hts12 : ∀ i u, ts[i]? = some u → PairAt H12 u ((exs row).getD i (0, 0)) := fun i u hu => e12 _ _ (hts11 i u hu)
    clear hxB hoB hts11 hel11
    try simp only [List.set_cons_zero, List.set_cons_succ]
    refine seq_asg (fun v G => ∃ (o : Addr) (xs : List V), v = .ref o ∧ o ≠ b ∧ Ex H12 G ∧ G o = some (.lst xs) ∧ xs.length = 18 ∧ ∀ x ∈ xs, RowX (hidB b G) x) (fun R hR => ?_) (fun v H13 hC => ?_)
    · walk_at "sx"
      refine fun zq1 mq1 => ?_
      have eq1 := Ex.new mq1 (o := HO.dK [])
      have hq1 := upd_same (H := H12) (a := zq1) (o := HO.dK [])
      generalize upd H12 zq1 (HO.dK []) = Gq1 at eq1 hq1 ⊢
      have nq1 : zq1 ≠ b := (b12.ex (Ex.refl H12)).apart mq1
      have rq1 : RowX (hidB b Gq1) (.ref zq1) := ⟨_, .inr ⟨_, rfl, hid_at nq1 hq1, rfl⟩, fun es e => (by cases e), Gd.dic.mono (by omega) (by omega)⟩
      refine ⟨sz_ok (by omega), fun zq2 mq2 => ?_⟩
      have eq2 := Ex.new mq2 (o := HO.lst [])
      have hq2 := upd_same (H := Gq1) (a := zq2) (o := HO.lst [])
      generalize upd Gq1 zq2 (HO.lst []) = Gq2 at eq2 hq2 ⊢
      have nq2 : zq2 ≠ b := (b12.ex (eq1)).apart mq2
      have rq2 : RowX (hidB b Gq2) (.ref zq2) := row_lst (hid_at nq2 hq2) (fun v hv => by simp at hv) (by simp)
      refine ⟨sz_ok (by omega), fun zq3 mq3 => ?_⟩
      have eq3 := Ex.new mq3 (o := HO.lst [V.ref a])
      have hq3 := upd_same (H := Gq2) (a := zq3) (o := HO.lst [V.ref a])
      generalize upd Gq2 zq3 (HO.lst [V.ref a]) = Gq3 at eq3 hq3 ⊢
      have nq3 : zq3 ≠ b := (b12.ex ((eq1.trans eq2))).apart mq3
      have E3 := ((eq1.trans eq2).trans eq3)
      have rq3 : RowX (hidB b Gq3) (.ref zq3) := by
        obtain ⟨ds, g1, g2, g3⟩ := els_all fun v hv => (hel12 v hv).ex (hid_of E3)
        have gl := g1.len
        rw [List.length_map] at gl
        have ga : Dx (hidB b Gq3) (.ref a) (.list ds) := .lst (hid_at nab (E3 _ _ ha12)) g1
        have gg : Gd 3 ((400 + 1) * ds.length) (.list ds) := Gd.list g2
        have gg2 : Gd 4 ((401 * ds.length + 1) * 1) (.list [.list ds]) := Gd.list (n := 3) fun d m => by rw [List.mem_singleton.mp m]; exact gg
        exact ⟨.list [.list ds], .inl ⟨.lst (hid_at nq3 hq3) (.cons ga .nil), shp (n := 4) (by show (PyData.canLayAll0 ds && true) = true; rw [g3]; rfl) gg2 (by omega)⟩, fun es e => by cases e; simp, gg2.mono (by omega) (by omega)⟩
      refine ⟨sz_ok (by omega), fun zq4 mq4 => ?_⟩
      have eq4 := Ex.new mq4 (o := HO.lst [V.non, V.int 0, V.str (Str.ofString ""), V.ref zq1, V.ref zq2, V.ref zq3])
      have hq4 := upd_same (H := Gq3) (a := zq4) (o := HO.lst [V.non, V.int 0, V.str (Str.ofString ""), V.ref zq1, V.ref zq2, V.ref zq3])
      generalize upd Gq3 zq4 (HO.lst [V.non, V.int 0, V.str (Str.ofString ""), V.ref zq1, V.ref zq2, V.ref zq3]) = Gq4 at eq4 hq4 ⊢
      have nq4 : zq4 ≠ b := (b12.ex (((eq1.trans eq2).trans eq3))).apart mq4
      refine catE (((((eq1.trans eq2).trans eq3).trans eq4)) _ _ ho12) hq4 (by rw [xl12]; simp) fun zq5 Gq5 mq5 eq5 hq5 => ?_
      have nq5 : zq5 ≠ b := (b12.ex ((((eq1.trans eq2).trans eq3).trans eq4))).apart mq5
      have sq5 := Ex.refl Gq5
      have sq4 := eq5.trans sq5
      have sq3 := eq4.trans sq4
      have sq2 := eq3.trans sq3
      have sq1 := eq2.trans sq2
      have Eq := eq1.trans sq1
      refine hR _ _ ⟨zq5, _, rfl, nq5, Eq, hq5, by rw [List.length_append, xl12]; rfl, fun v hv => ?_⟩
      rcases List.mem_append.mp hv with hv | hv
      · exact (hx12 v hv).ex (hid_of Eq)
      simp only [List.mem_cons, List.mem_nil_iff, or_false] at hv
      rcases hv with rfl | rfl | rfl | rfl | rfl | rfl
      · exact ⟨_, .inl ⟨.non, rfl⟩, fun es e => (by cases e), Gd.non.mono (by omega) (by omega)⟩
      · exact ⟨_, .inl ⟨.int 0, rfl⟩, fun es e => (by cases e), (Gd.int (by decide)).mono (by omega) (by omega)⟩
      · exact ⟨_, .inl ⟨.str _, by decide +kernel⟩, fun es e => (by cases e), (Gd.str (by decide +kernel)).mono (by omega) (by decide +kernel)⟩
      · exact rq1.ex (hid_of sq1)
      · exact rq2.ex (hid_of sq2)
      · exact rq3.ex (hid_of sq3)
    obtain ⟨o13, xs13, rfl, no13, e13, ho13, xl13, hx13⟩ := hC
    have ha13 := e13 _ _ ha12
    have b13 := b12.ex e13
    have hel13 : ∀ v ∈ ts.map V.ref, ElX (hidB b H13) v := fun v hv => (hel12 v hv).ex (hid_of e13)
    have helP : ∀ v ∈ ts.map V.ref, ElP (hidB b H13) v := fun v hv => by
      obtain ⟨t, ht, rfl⟩ := List.mem_map.mp hv
      obtain ⟨k', hk1, hk2⟩ := List.getElem_of_mem ht
      have ht' := List.getElem?_eq_some_iff.mpr ⟨hk1, hk2⟩
      have hq' := hpg _ (List.mem_of_getElem? (hget k' (by omega)))
      exact ⟨_, _, .tup (hid_at (ntb t ht) (e13 _ _ (pr_ev (hts12 k' t ht')))) (.cons (.int _) (.cons (.int _) .nil)), ab40 (by omega), ab40 (by omega)⟩
    clear hx12 ho12 hel12 hts12
    try simp only [List.set_cons_zero, List.set_cons_succ]
    refine seq_asg (fun v G => ∃ (o : Addr) (us : List Addr) (Gp : Hp), v = .ref o ∧ o ≠ b ∧ Ex H13 Gp ∧ Gp o = none ∧ Ex Gp G ∧ G o = some (.lst (us.map V.ref)) ∧ us.length = 20 ∧ ∀ u ∈ us, ArgT (hidB o (hidB b G)) u) (fun R hR => ?_) (fun v H14 hC => ?_)
    · walk_at "sx"
      refine repE (k := 400) ha13 (by omega) (by rw [List.length_map]; omega) fun zu1 Gu1 mu1 eu1 hu1 => ?_
      have nu1 : zu1 ≠ b := b13.apart mu1
      refine slXE (.inl (.inl hu1)) fun zu2 Gu2 yu2 mu2 eu2 hu2 qu2 lu2 pu2 => ?_
      have nu2 : zu2 ≠ b := (b13.ex (eu1)).apart mu2
      have lu2' : yu2.length ≤ 400 := by rw [qu2, show (400 : Int) = ((400 : Nat) : Int) from rfl, cut_take, List.length_take]; omega
      have E2 := (eu1.trans eu2)
      have ru2 : RowX (hidB b Gu2) (.ref zu2) := row_big (hid_at nu2 hu2) (fun v hv => by
        obtain ⟨w', hw1, hw2⟩ := List.mem_flatten.mp (pu2 v hv)
        rw [(List.mem_replicate.mp hw1).2] at hw2
        exact (helP v hw2).ex (hid_of E2)) lu2'
      refine ⟨sz_ok (by omega), fun zu3 mu3 => ?_⟩
      have eu3 := Ex.new mu3 (o := HO.lst [V.ref a, V.ref zu2])
      have hu3 := upd_same (H := Gu2) (a := zu3) (o := HO.lst [V.ref a, V.ref zu2])
      generalize upd Gu2 zu3 (HO.lst [V.ref a, V.ref zu2]) = Gu3 at eu3 hu3 ⊢
      have nu3 : zu3 ≠ b := (b13.ex ((eu1.trans eu2))).apart mu3
      refine catE ((((eu1.trans eu2).trans eu3)) _ _ ho13) hu3 (by rw [xl13]; simp) fun zu4 Gu4 mu4 eu4 hu4 => ?_
      have nu4 : zu4 ≠ b := (b13.ex (((eu1.trans eu2).trans eu3))).apart mu4
      have su4 := Ex.refl Gu4
      have su3 := eu4.trans su4
      have su2 := eu3.trans su3
      have su1 := eu2.trans su2
      have Eu := eu1.trans su1
      have hrows : ∀ v ∈ xs13 ++ [V.ref a, V.ref zu2], RowX (hidB b Gu4) v := fun v hv => by
        rcases List.mem_append.mp hv with hv | hv
        · exact (hx13 v hv).ex (hid_of Eu)
        simp only [List.mem_cons, List.mem_nil_iff, or_false] at hv
        rcases hv with rfl | rfl
        · exact row_lst (hid_at nab (Eu _ _ ha13)) (fun v hv => (hel13 v hv).ex (hid_of Eu)) (by rw [List.length_map]; omega)
        · exact ru2.ex (hid_of su2)
      have hlen : (xs13 ++ [V.ref a, V.ref zu2]).length = 20 := by rw [List.length_append, xl13]; rfl
      generalize xs13 ++ [V.ref a, V.ref zu2] = xr at hrows hlen hu4
      refine ⟨_, rfl, ⟨_, .inl (.inl hu4)⟩, fun D nD => ?_⟩
      have nDb : D ≠ b := (b13.ex Eu).apart nD
      refine lc_listE (xs := xr) (fun i' G => Ex Gu4 G ∧ ∃ us : List Addr, G D = some (.lst (us.map V.ref)) ∧ us.length = i' ∧ ∀ u ∈ us, ArgT (hidB D (hidB b G)) u) ⟨Ex.new nD, [], upd_same, rfl, fun u hu => by simp at hu⟩ (fun i' G _ hP => .inl (.inl (hP.1 _ _ hu4))) (fun i' v G hv hP => ?_) (fun G hP => ?_)
      · obtain ⟨e, us', hD, ul', hu'⟩ := hP
        have hi' := (List.getElem?_eq_some_iff.mp hv).1
        walk_at "sx"
        refine ⟨rfl, ?_⟩
        simp only [wipe, List.set_cons_zero, List.set_cons_succ, List.map_cons, List.map_nil, List.foldl_cons, List.foldl_nil]
        walk_at "sx"
        refine ⟨sz_ok (by omega), fun T nT => ?_⟩
        have eT := Ex.new nT (o := .tup [V.int p, v])
        have nTD : T ≠ D := Ne.symm (ne_of_none hD nT)
        have nTb : T ≠ b := (b13.ex (Eu.trans e)).apart nT
        have Em := (e.trans eT).mut (o := .lst (us'.map V.ref ++ [V.ref T])) nD
        refine ⟨_, eT _ _ hD, BC.sz_lt (by rw [List.length_map]; omega), Em, us' ++ [T], by rw [upd_same, List.map_append]; rfl, by rw [List.length_append, ul']; rfl, fun u hu => ?_⟩
        rcases List.mem_append.mp hu with hu | hu
        · exact (hu' u hu).ex fun c' o' hc' => by
              have h2 : c' ≠ D := fun z => by rw [z] at hc'; unfold hidB at hc'; rw [if_pos rfl] at hc'; cases hc'
              have h3 : c' ≠ b := fun z => by rw [hid_ne h2] at hc'; rw [z] at hc'; unfold hidB at hc'; rw [if_pos rfl] at hc'; cases hc'
              rw [hid_ne h2, hid_ne h3] at hc'
              rw [hid_ne h2, hid_ne h3, upd_ne h2]
              exact eT _ _ hc'
        · rw [List.mem_singleton.mp hu]
          have hv2 := hrows v (List.mem_of_getElem? hv)
          have hid2D : ∀ {G0 G1 : Hp}, Ex G0 G1 → G0 D = none → Ex (hidB b G0) (hidB D (hidB b G1)) := fun e0 g0 c' o' hc' => by
            have h1 := hid_of (b := b) e0 _ _ hc'
            have h2 : c' ≠ D := fun z => by rw [z] at hc'; have := hid_ex _ _ hc'; rw [g0] at this; cases this
            rw [hid_ne h2]; exact h1
          refine ⟨V.int p, v, by rw [hid_ne nTD, hid_ne nTb, upd_ne nTD]; exact upd_same, ⟨_, .inl ⟨.int p, rfl⟩, fun es e => (by cases e), (Gd.int (ab40 (by have := hp p hpm; omega))).mono (by omega) (by omega)⟩, hv2.ex (hid2D Em nD)⟩
      · obtain ⟨e, us', hD, ul', hu'⟩ := hP
        exact hR _ _ ⟨D, us', _, rfl, nDb, Eu, nD, e, hD, by rw [ul', hlen], hu'⟩
    obtain ⟨of, usA, Gf, rfl, nof, eF, nGf, eF2, hof, ulA, huA⟩ := hC
    try simp only [List.set_cons_zero, List.set_cons_succ]
    have haf := eF _ _ ha13
    have bF := b13.ex eF
    have helF : ∀ v ∈ ts.map V.ref, ElX (hidB b Gf) v := fun v hv => (hel13 v hv).ex (hid_of eF)
    have rowA : RowX (hidB b Gf) (.ref a) := row_lst (hid_at nab haf) helF (by rw [List.length_map]; omega)
    have hid3 : ∀ {G G' : Hp}, Ex G G' → G of = none → Ex (hidB b G) (hidB of (hidB b G')) := fun e g c' o' hc' => by
      have h1 := hid_of (b := b) e _ _ hc'
      have h2 : c' ≠ of := fun z => by rw [z] at hc'; have := hid_ex _ _ hc'; rw [g] at this; cases this
      rw [hid_ne h2]; exact h1
    refine seq_cut (fun σ' G => ∃ (l9 : Option V) (us : List Addr), σ' = [some (.ref b), some (.int p), some (.ref a), some (.ref o3), some bd, some (.ref sw), some (.ref o13), l7, some (.ref of), l9, some (.int i), some (.int j), some (.int n), some (.int x), some (.int y), none] ∧ Ex Gf G ∧ G of = some (.lst (us.map V.ref)) ∧ us.length = 32 ∧ ∀ u ∈ us, ArgT (hidB b G) u) (fun N hN => ?_) (fun σ15 H15 hC => ?_)
    · walk_at "sx"
      refine ⟨sz_ok (by omega), fun zv1 mv1 => ?_⟩
      have ev1 := Ex.new mv1 (o := HO.lst [V.int p])
      have hv1 := upd_same (H := H14) (a := zv1) (o := HO.lst [V.int p])
      generalize upd H14 zv1 (HO.lst [V.int p]) = Gv1 at ev1 hv1 ⊢
      have nv1 : zv1 ≠ b := ((bF.ex eF2).ex (Ex.refl H14)).apart mv1
      refine ⟨sz_ok (by omega), fun zv2 mv2 => ?_⟩
      have ev2 := Ex.new mv2 (o := HO.tup [V.int p])
      have hv2 := upd_same (H := Gv1) (a := zv2) (o := HO.tup [V.int p])
      generalize upd Gv1 zv2 (HO.tup [V.int p]) = Gv2 at ev2 hv2 ⊢
      have nv2 : zv2 ≠ b := ((bF.ex eF2).ex (ev1)).apart mv2
      refine fun zv3 mv3 => ?_
      have ev3 := Ex.new mv3 (o := HO.dK [])
      have hv3 := upd_same (H := Gv2) (a := zv3) (o := HO.dK [])
      generalize upd Gv2 zv3 (HO.dK []) = Gv3 at ev3 hv3 ⊢
      have nv3 : zv3 ≠ b := ((bF.ex eF2).ex ((ev1.trans ev2))).apart mv3
      refine ⟨⟨by decide, by decide, by decide⟩, ?_⟩
      generalize hten : (10 : Int) ^ Int.toNat 30 = ten
      have tenl : ten.natAbs < 10 ^ 38 := by rw [← hten]; decide
      refine ⟨sz_ok (by omega), fun zv4 mv4 => ?_⟩
      have ev4 := Ex.new mv4 (o := HO.lst [V.non, V.int (-1), V.int 40, V.bl true, V.str (Str.ofString "0"), V.ref zv1, V.ref zv2, V.int n, V.int x, V.ref zv3, V.int ten, V.int (-2)])
      have hv4 := upd_same (H := Gv3) (a := zv4) (o := HO.lst [V.non, V.int (-1), V.int 40, V.bl true, V.str (Str.ofString "0"), V.ref zv1, V.ref zv2, V.int n, V.int x, V.ref zv3, V.int ten, V.int (-2)])
      generalize upd Gv3 zv4 (HO.lst [V.non, V.int (-1), V.int 40, V.bl true, V.str (Str.ofString "0"), V.ref zv1, V.ref zv2, V.int n, V.int x, V.ref zv3, V.int ten, V.int (-2)]) = Gv4 at ev4 hv4 ⊢
      have nv4 : zv4 ≠ b := ((bF.ex eF2).ex (((ev1.trans ev2).trans ev3))).apart mv4
      have sv4 := Ex.refl Gv4
      have sv3 := ev4.trans sv4
      have sv2 := ev3.trans sv3
      have sv1 := ev2.trans sv2
      have Ev := ev1.trans sv1
      have pp := hp p hpm
      have nfz : ∀ {u : Addr} {Gu : Hp}, Ex H14 Gu → Gu u = none → u ≠ of := fun eu hu e => by rw [e, eu _ _ hof] at hu; cases hu
      have nz1 : zv1 ≠ of := nfz (Ex.refl _) mv1
      have nz2 : zv2 ≠ of := nfz (ev1) mv2
      have nz3 : zv3 ≠ of := nfz ((ev1.trans ev2)) mv3
      have nz4 : zv4 ≠ of := nfz (((ev1.trans ev2).trans ev3)) mv4
      have things : ∀ v ∈ ([V.non, V.int (-1), V.int 40, V.bl true, V.str (Str.ofString "0"), V.ref zv1, V.ref zv2, V.int n, V.int x, V.ref zv3, V.int ten, V.int (-2)] : List V), RowX (hidB of (hidB b Gv4)) v := fun v hv => by
        have up : ∀ {u : Addr} {o' : HO}, u ≠ of → u ≠ b → Gv4 u = some o' → hidB of (hidB b Gv4) u = some o' := fun h1 h2 h3 => by rw [hid_ne h1, hid_ne h2]; exact h3
        have rint : ∀ {w' : Int}, w'.natAbs < 10 ^ 38 → RowX (hidB of (hidB b Gv4)) (.int w') := fun h => ⟨_, .inl ⟨.int _, rfl⟩, fun es e => (by cases e), (Gd.int h).mono (by omega) (by omega)⟩
        have ei : ∀ {w' : Int} (G0 : Hp), w'.natAbs < 10 ^ 38 → ElX G0 (.int w') := fun _ h => ⟨_, .int _, (Gd.int h).mono (by omega) (by omega), rfl⟩
        simp only [List.mem_cons, List.mem_nil_iff, or_false] at hv
        rcases hv with rfl | rfl | rfl | rfl | rfl | rfl | rfl | rfl | rfl | rfl | rfl | rfl
        · exact ⟨_, .inl ⟨.non, rfl⟩, fun es e => (by cases e), Gd.non.mono (by omega) (by omega)⟩
        · exact rint (by decide)
        · exact rint (by decide)
        · exact ⟨_, .inl ⟨.bl true, rfl⟩, fun es e => (by cases e), (Gd.bl true).mono (by omega) (by omega)⟩
        · exact ⟨_, .inl ⟨.str _, by decide +kernel⟩, fun es e => (by cases e), (Gd.str (by decide +kernel)).mono (by omega) (by decide +kernel)⟩
        · exact row_lst (xs := [V.int p]) (up nz1 nv1 (sv1 _ _ hv1)) (fun v hv => by rw [List.mem_singleton.mp hv]; exact ei _ (ab40 (by omega))) (by simp)
        · exact row_tup (xs := [V.int p]) (up nz2 nv2 (sv2 _ _ hv2)) (fun v hv => by rw [List.mem_singleton.mp hv]; exact ei _ (ab40 (by omega))) (by simp)
        · exact rint (ab40 (by omega))
        · exact rint (ab40 (by omega))
        · exact ⟨_, .inr ⟨_, rfl, up nz3 nv3 (sv3 _ _ hv3), rfl⟩, fun es e => (by cases e), Gd.dic.mono (by omega) (by omega)⟩
        · exact rint tenl
        · exact rint (by decide)
      have hlen : ([V.non, V.int (-1), V.int 40, V.bl true, V.str (Str.ofString "0"), V.ref zv1, V.ref zv2, V.int n, V.int x, V.ref zv3, V.int ten, V.int (-2)] : List V).length = 12 := rfl
      generalize ([V.non, V.int (-1), V.int 40, V.bl true, V.str (Str.ofString "0"), V.ref zv1, V.ref zv2, V.int n, V.int x, V.ref zv3, V.int ten, V.int (-2)] : List V) = xt at things hlen hv4
      refine ⟨⟨_, .inl (.inl hv4)⟩, ?_⟩
      refine lg_list (xs := xt) (fun k' σ' G => ∃ (l9 : Option V) (us : List Addr), σ' = [some (.ref b), some (.int p), some (.ref a), some (.ref o3), some bd, some (.ref sw), some (.ref o13), l7, some (.ref of), l9, some (.int i), some (.int j), some (.int n), some (.int x), some (.int y), none] ∧ Ex Gf G ∧ Ex (hidB of Gv4) (hidB of G) ∧ G zv4 = some (.lst xt) ∧ G of = some (.lst (us.map V.ref)) ∧ us.length = 20 + k' ∧ ∀ u ∈ us, ArgT (hidB of (hidB b G)) u) ⟨none, usA, rfl, eF2.trans Ev, Ex.refl _, hv4, Ev _ _ hof, by rw [ulA], fun u hu => (huA u hu).ex (hid_of (hid_of Ev))⟩ (fun k' σ' G _ hP => by obtain ⟨_, _, _, _, _, e, _⟩ := hP; exact .inl (.inl e)) (fun k' v σ' G hv hP => ?_) (fun σ' G hP => ?_)
      · obtain ⟨l9, us', rfl, eG, eH, hzG, hoG, ul', hu'⟩ := hP
        have hk' := (List.getElem?_eq_some_iff.mp hv).1
        walk_at "sx"
        refine ⟨tyL hoG, ?_⟩
        refine ⟨sz_ok (by omega), fun T nT => ?_⟩
        have eT := Ex.new nT (o := .tup [v, V.ref a])
        have hTT := upd_same (H := G) (a := T) (o := .tup [v, V.ref a])
        generalize upd G T (.tup [v, V.ref a]) = GT at eT hTT ⊢
        have nTf : T ≠ of := fun e => by rw [e, hoG] at nT; cases nT
        have nTb : T ≠ b := (bF.ex eG).apart nT
        refine appL (eT _ _ hoG) (BC.sz_lt (by rw [List.length_map]; omega)) ?_
        have Em := (eG.trans eT).mut (o := .lst (us'.map V.ref ++ [V.ref T])) nGf
        have e1 : Ex (hidB of G) (hidB of (upd GT of (.lst (us'.map V.ref ++ [V.ref T])))) := fun c' o' hc' => by
          have h2 : c' ≠ of := fun z => by rw [z] at hc'; unfold hidB at hc'; rw [if_pos rfl] at hc'; cases hc'
          rw [hid_ne h2] at hc'
          rw [hid_ne h2, upd_ne h2]
          exact eT _ _ hc'
        have sw2 : ∀ {X Y : Hp}, Ex (hidB of X) (hidB of Y) → Ex (hidB of (hidB b X)) (hidB of (hidB b Y)) := fun e0 c' o' hc' => by
          have h2 : c' ≠ of := fun z => by rw [z] at hc'; unfold hidB at hc'; rw [if_pos rfl] at hc'; cases hc'
          have h3 : c' ≠ b := fun z => by rw [hid_ne h2] at hc'; rw [z] at hc'; unfold hidB at hc'; rw [if_pos rfl] at hc'; cases hc'
          rw [hid_ne h2, hid_ne h3] at hc'
          have := e0 c' o' (by rw [hid_ne h2]; exact hc')
          rw [hid_ne h2] at this
          rw [hid_ne h2, hid_ne h3]; exact this
        refine ⟨Em, eH.trans e1, by rw [upd_ne nz4]; exact eT _ _ hzG, us' ++ [T], by rw [upd_same, List.map_append]; rfl, by rw [List.length_append, ul']; rfl, fun u hu => ?_⟩
        rcases List.mem_append.mp hu with hu | hu
        · exact (hu' u hu).ex (sw2 e1)
        · rw [List.mem_singleton.mp hu]
          exact ⟨v, V.ref a, by rw [hid_ne nTf, hid_ne nTb, upd_ne nTf]; exact hTT, (things v (List.mem_of_getElem? hv)).ex (sw2 (eH.trans e1)), rowA.ex (hid3 Em nGf)⟩
      · obtain ⟨l9, us', rfl, eG, eH, hzG, hoG, ul', hu'⟩ := hP
        exact hN _ _ ⟨l9, us', rfl, eG, hoG, by rw [ul', hlen], fun u hu => (hu' u hu).ex hid_ex⟩
    obtain ⟨l9, usB, rfl, eR, hofR, ulB, huB⟩ := hC
    have bR := bF.ex eR
    walk_at "sx"
    refine ⟨sz_ok (by omega), fun zw1 mw1 => ?_⟩
    have ew1 := Ex.new mw1 (o := HO.tup [V.non, V.non])
    have hw1 := upd_same (H := H15) (a := zw1) (o := HO.tup [V.non, V.non])
    generalize upd H15 zw1 (HO.tup [V.non, V.non]) = Gw1 at ew1 hw1 ⊢
    have nw1 : zw1 ≠ b := (bR.ex (Ex.refl H15)).apart mw1
    refine ⟨sz_ok (by omega), fun zw2 mw2 => ?_⟩
    have ew2 := Ex.new mw2 (o := HO.tup [])
    have hw2 := upd_same (H := Gw1) (a := zw2) (o := HO.tup [])
    generalize upd Gw1 zw2 (HO.tup []) = Gw2 at ew2 hw2 ⊢
    have nw2 : zw2 ≠ b := (bR.ex (ew1)).apart mw2
    have rw2 : RowX (hidB b Gw2) (.ref zw2) := row_tup (hid_at nw2 hw2) (fun v hv => by simp at hv) (by simp)
    refine ⟨sz_ok (by omega), fun zw3 mw3 => ?_⟩
    have ew3 := Ex.new mw3 (o := HO.tup [V.non, V.ref zw2])
    have hw3 := upd_same (H := Gw2) (a := zw3) (o := HO.tup [V.non, V.ref zw2])
    generalize upd Gw2 zw3 (HO.tup [V.non, V.ref zw2]) = Gw3 at ew3 hw3 ⊢
    have nw3 : zw3 ≠ b := (bR.ex ((ew1.trans ew2))).apart mw3
    refine ⟨sz_ok (by omega), fun zw4 mw4 => ?_⟩
    have ew4 := Ex.new mw4 (o := HO.lst [V.non])
    have hw4 := upd_same (H := Gw3) (a := zw4) (o := HO.lst [V.non])
    generalize upd Gw3 zw4 (HO.lst [V.non]) = Gw4 at ew4 hw4 ⊢
    have nw4 : zw4 ≠ b := (bR.ex (((ew1.trans ew2).trans ew3))).apart mw4
    have rw4 : RowX (hidB b Gw4) (.ref zw4) := row_lst (hid_at nw4 hw4) (fun v hv => by rw [List.mem_singleton.mp hv]; exact ⟨_, .non, Gd.non.mono (by omega) (by omega), rfl⟩) (by simp)
    refine ⟨sz_ok (by omega), fun zw5 mw5 => ?_⟩
    have ew5 := Ex.new mw5 (o := HO.tup [V.non, V.ref zw4])
    have hw5 := upd_same (H := Gw4) (a := zw5) (o := HO.tup [V.non, V.ref zw4])
    generalize upd Gw4 zw5 (HO.tup [V.non, V.ref zw4]) = Gw5 at ew5 hw5 ⊢
    have nw5 : zw5 ≠ b := (bR.ex ((((ew1.trans ew2).trans ew3).trans ew4))).apart mw5
    refine ⟨sz_ok (by omega), fun zw6 mw6 => ?_⟩
    have ew6 := Ex.new mw6 (o := HO.lst [])
    have hw6 := upd_same (H := Gw5) (a := zw6) (o := HO.lst [])
    generalize upd Gw5 zw6 (HO.lst []) = Gw6 at ew6 hw6 ⊢
    have nw6 : zw6 ≠ b := (bR.ex (((((ew1.trans ew2).trans ew3).trans ew4).trans ew5))).apart mw6
    have rw6 : RowX (hidB b Gw6) (.ref zw6) := row_lst (hid_at nw6 hw6) (fun v hv => by simp at hv) (by simp)
    refine ⟨sz_ok (by omega), fun zw7 mw7 => ?_⟩
    have ew7 := Ex.new mw7 (o := HO.tup [V.int 0, V.ref zw6])
    have hw7 := upd_same (H := Gw6) (a := zw7) (o := HO.tup [V.int 0, V.ref zw6])
    generalize upd Gw6 zw7 (HO.tup [V.int 0, V.ref zw6]) = Gw7 at ew7 hw7 ⊢
    have nw7 : zw7 ≠ b := (bR.ex ((((((ew1.trans ew2).trans ew3).trans ew4).trans ew5).trans ew6))).apart mw7
    refine ⟨sz_ok (by omega), fun zw8 mw8 => ?_⟩
    have ew8 := Ex.new mw8 (o := HO.tup [V.int 0, V.int 0])
    have hw8 := upd_same (H := Gw7) (a := zw8) (o := HO.tup [V.int 0, V.int 0])
    generalize upd Gw7 zw8 (HO.tup [V.int 0, V.int 0]) = Gw8 at ew8 hw8 ⊢
    have nw8 : zw8 ≠ b := (bR.ex (((((((ew1.trans ew2).trans ew3).trans ew4).trans ew5).trans ew6).trans ew7))).apart mw8
    refine ⟨sz_ok (by omega), fun zw9 mw9 => ?_⟩
    have ew9 := Ex.new mw9 (o := HO.lst [V.ref zw8])
    have hw9 := upd_same (H := Gw8) (a := zw9) (o := HO.lst [V.ref zw8])
    generalize upd Gw8 zw9 (HO.lst [V.ref zw8]) = Gw9 at ew9 hw9 ⊢
    have nw9 : zw9 ≠ b := (bR.ex ((((((((ew1.trans ew2).trans ew3).trans ew4).trans ew5).trans ew6).trans ew7).trans ew8))).apart mw9
    have rw9 : RowX (hidB b Gw9) (.ref zw9) := row_lst (hid_at nw9 hw9) (fun v hv => by rw [List.mem_singleton.mp hv]; exact el_pair (hid_at nw8 ((ew9) _ _ hw8)) (by decide) (by decide)) (by simp)
    refine ⟨sz_ok (by omega), fun zw10 mw10 => ?_⟩
    have ew10 := Ex.new mw10 (o := HO.tup [V.int 0, V.ref zw9])
    have hw10 := upd_same (H := Gw9) (a := zw10) (o := HO.tup [V.int 0, V.ref zw9])
    generalize upd Gw9 zw10 (HO.tup [V.int 0, V.ref zw9]) = Gw10 at ew10 hw10 ⊢
    have nw10 : zw10 ≠ b := (bR.ex (((((((((ew1.trans ew2).trans ew3).trans ew4).trans ew5).trans ew6).trans ew7).trans ew8).trans ew9))).apart mw10
    refine ⟨sz_ok (by omega), fun zw11 mw11 => ?_⟩
    have ew11 := Ex.new mw11 (o := HO.tup [V.int 0, V.int 1])
    have hw11 := upd_same (H := Gw10) (a := zw11) (o := HO.tup [V.int 0, V.int 1])
    generalize upd Gw10 zw11 (HO.tup [V.int 0, V.int 1]) = Gw11 at ew11 hw11 ⊢
    have nw11 : zw11 ≠ b := (bR.ex ((((((((((ew1.trans ew2).trans ew3).trans ew4).trans ew5).trans ew6).trans ew7).trans ew8).trans ew9).trans ew10))).apart mw11
    refine ⟨sz_ok (by omega), fun zw12 mw12 => ?_⟩
    have ew12 := Ex.new mw12 (o := HO.tup [V.int 1, V.int 0])
    have hw12 := upd_same (H := Gw11) (a := zw12) (o := HO.tup [V.int 1, V.int 0])
    generalize upd Gw11 zw12 (HO.tup [V.int 1, V.int 0]) = Gw12 at ew12 hw12 ⊢
    have nw12 : zw12 ≠ b := (bR.ex (((((((((((ew1.trans ew2).trans ew3).trans ew4).trans ew5).trans ew6).trans ew7).trans ew8).trans ew9).trans ew10).trans ew11))).apart mw12
    refine ⟨sz_ok (by omega), fun zw13 mw13 => ?_⟩
    have ew13 := Ex.new mw13 (o := HO.lst [V.ref zw11, V.ref zw12])
    have hw13 := upd_same (H := Gw12) (a := zw13) (o := HO.lst [V.ref zw11, V.ref zw12])
    generalize upd Gw12 zw13 (HO.lst [V.ref zw11, V.ref zw12]) = Gw13 at ew13 hw13 ⊢
    have nw13 : zw13 ≠ b := (bR.ex ((((((((((((ew1.trans ew2).trans ew3).trans ew4).trans ew5).trans ew6).trans ew7).trans ew8).trans ew9).trans ew10).trans ew11).trans ew12))).apart mw13
    have rw13 : RowX (hidB b Gw13) (.ref zw13) := row_lst (hid_at nw13 hw13) (fun v hv => by
      simp only [List.mem_cons, List.mem_nil_iff, or_false] at hv
      rcases hv with rfl | rfl
      · exact el_pair (hid_at nw11 (((ew12.trans ew13)) _ _ hw11)) (by decide) (by decide)
      · exact el_pair (hid_at nw12 ((ew13) _ _ hw12)) (by decide) (by decide)) (by simp)
    refine ⟨sz_ok (by omega), fun zw14 mw14 => ?_⟩
    have ew14 := Ex.new mw14 (o := HO.tup [V.int 0, V.ref zw13])
    have hw14 := upd_same (H := Gw13) (a := zw14) (o := HO.tup [V.int 0, V.ref zw13])
    generalize upd Gw13 zw14 (HO.tup [V.int 0, V.ref zw13]) = Gw14 at ew14 hw14 ⊢
    have nw14 : zw14 ≠ b := (bR.ex (((((((((((((ew1.trans ew2).trans ew3).trans ew4).trans ew5).trans ew6).trans ew7).trans ew8).trans ew9).trans ew10).trans ew11).trans ew12).trans ew13))).apart mw14
    refine ⟨sz_ok (by omega), fun zw15 mw15 => ?_⟩
    have ew15 := Ex.new mw15 (o := HO.lst [V.ref zw1, V.ref zw3, V.ref zw5, V.ref zw7, V.ref zw10, V.ref zw14])
    have hw15 := upd_same (H := Gw14) (a := zw15) (o := HO.lst [V.ref zw1, V.ref zw3, V.ref zw5, V.ref zw7, V.ref zw10, V.ref zw14])
    generalize upd Gw14 zw15 (HO.lst [V.ref zw1, V.ref zw3, V.ref zw5, V.ref zw7, V.ref zw10, V.ref zw14]) = Gw15 at ew15 hw15 ⊢
    have nw15 : zw15 ≠ b := (bR.ex ((((((((((((((ew1.trans ew2).trans ew3).trans ew4).trans ew5).trans ew6).trans ew7).trans ew8).trans ew9).trans ew10).trans ew11).trans ew12).trans ew13).trans ew14))).apart mw15
    refine catE ((((((((((((((((ew1.trans ew2).trans ew3).trans ew4).trans ew5).trans ew6).trans ew7).trans ew8).trans ew9).trans ew10).trans ew11).trans ew12).trans ew13).trans ew14).trans ew15)) _ _ hofR) hw15 (by rw [List.length_map, ulB]; simp) fun zw16 Gw16 mw16 ew16 hw16 => ?_
    have nw16 : zw16 ≠ b := (bR.ex (((((((((((((((ew1.trans ew2).trans ew3).trans ew4).trans ew5).trans ew6).trans ew7).trans ew8).trans ew9).trans ew10).trans ew11).trans ew12).trans ew13).trans ew14).trans ew15))).apart mw16
    have sw16 := Ex.refl Gw16
    have sw15 := ew16.trans sw16
    have sw14 := ew15.trans sw15
    have sw13 := ew14.trans sw14
    have sw12 := ew13.trans sw13
    have sw11 := ew12.trans sw12
    have sw10 := ew11.trans sw11
    have sw9 := ew10.trans sw10
    have sw8 := ew9.trans sw9
    have sw7 := ew8.trans sw8
    have sw6 := ew7.trans sw7
    have sw5 := ew6.trans sw6
    have sw4 := ew5.trans sw5
    have sw3 := ew4.trans sw4
    have sw2 := ew3.trans sw3
    have sw1 := ew2.trans sw2
    have Ew := ew1.trans sw1
    refine k zw16 (usB ++ [zw1, zw3, zw5, zw7, zw10, zw14]) _ ((f1.trans F6).trans (Fx.of (((((((e8.trans e9).trans E11).trans e12).trans e13).trans eF).trans eR).trans Ew))) ((bR.ex Ew).mono (by omega)) nw16 (by rw [hw16, List.map_append]; rfl) (by rw [List.length_append, ulB]; simp) fun u hu => ?_
    rcases List.mem_append.mp hu with hu | hu
    · exact (huB u hu).ex (hid_of Ew)
    simp only [List.mem_cons, List.mem_nil_iff, or_false] at hu
    rcases hu with rfl | rfl | rfl | rfl | rfl | rfl
    · exact ⟨V.non, V.non, hid_at nw1 (sw1 _ _ hw1), ⟨_, .inl ⟨.non, rfl⟩, fun es e => (by cases e), Gd.non.mono (by omega) (by omega)⟩, ⟨_, .inl ⟨.non, rfl⟩, fun es e => (by cases e), Gd.non.mono (by omega) (by omega)⟩⟩
    · exact ⟨V.non, V.ref zw2, hid_at nw3 (sw3 _ _ hw3), ⟨_, .inl ⟨.non, rfl⟩, fun es e => (by cases e), Gd.non.mono (by omega) (by omega)⟩, rw2.ex (hid_of sw2)⟩
    · exact ⟨V.non, V.ref zw4, hid_at nw5 (sw5 _ _ hw5), ⟨_, .inl ⟨.non, rfl⟩, fun es e => (by cases e), Gd.non.mono (by omega) (by omega)⟩, rw4.ex (hid_of sw4)⟩
    · exact ⟨V.int 0, V.ref zw6, hid_at nw7 (sw7 _ _ hw7), ⟨_, .inl ⟨.int 0, rfl⟩, fun es e => (by cases e), (Gd.int (by decide)).mono (by omega) (by omega)⟩, rw6.ex (hid_of sw6)⟩
    · exact ⟨V.int 0, V.ref zw9, hid_at nw10 (sw10 _ _ hw10), ⟨_, .inl ⟨.int 0, rfl⟩, fun es e => (by cases e), (Gd.int (by decide)).mono (by omega) (by omega)⟩, rw9.ex (hid_of sw9)⟩
    · exact ⟨V.int 0, V.ref zw13, hid_at nw14 (sw14 _ _ hw14), ⟨_, .inl ⟨.int 0, rfl⟩, fun es e => (by cases e), (Gd.int (by decide)).mono (by omega) (by omega)⟩, rw13.ex (hid_of sw13)⟩
end
end LW

set_option Elab.async false
set_option linter.all false
set_option maxRecDepth 100000
set_option maxHeartbeats 4000000
/-! the exits of visits are judged valid -/
namespace EF
open PySem PySem.Spec PyProof.Rows L2 BC TR Evl
theorem lead_congr {f g : Int → Int} {r : Int} {S : Int → Prop} (hf : ∀ x, S x → f x = g x ∧ S (f x)) : ∀ (n : Nat) {p : Int}, S p → lead f r n p = lead g r n p
  | 0, _, _ => rfl
  | n + 1, p, hp => by
    show (if p = r then true else lead f r n (f p)) = (if p = r then true else lead g r n (g p))
    rw [← (hf p hp).1, lead_congr hf n (hf p hp).2]
theorem ok_exs {row : List Int} (hp : Pg 40 row) (hne : row ≠ []) : okQ (exs row) = true := by
  have pw : (namesOf (exs row)).Pairwise (· < ·) := by
    unfold namesOf
    rw [List.pairwise_map]
    exact exs_srt row
  have hn : ∀ x, x ∈ namesOf (exs row) ↔ x ∈ row := fun x => by
    unfold namesOf
    rw [List.mem_map]
    constructor
    · rintro ⟨⟨c, y⟩, h1, e⟩
      cases e
      exact (mem_nx ((mem_exs hp).mp h1)).1
    · intro m
      obtain ⟨y, hy⟩ := nx_mem m
      exact ⟨(x, y), (mem_exs hp).mpr hy, rfl⟩
  have hnx : ∀ x, x ∈ row → nxq (exs row) x = nxt row x ∧ nxq (exs row) x ∈ row := fun x hx => by
    obtain ⟨y, hy⟩ := nx_mem hx
    rw [nxq_at pw ((mem_exs hp).mpr hy), nxt_at hy]
    exact ⟨rfl, (mem_nx hy).2⟩
  unfold okQ
  rw [roots_exs hp hne, decide_eq_true pw]
  have c1 : closedQ (exs row) = true := by
    unfold closedQ
    rw [List.all_eq_true]
    intro q hq
    obtain ⟨c, y⟩ := q
    exact decide_eq_true ((hn y).mpr (mem_nx ((mem_exs hp).mp hq)).2)
  rw [c1]
  show (true && true && true && _) = true
  rw [Bool.true_and, Bool.true_and, Bool.true_and, List.all_eq_true]
  intro p hpm
  have hpr := (hn p).mp hpm
  show lead (nxq (exs row)) (lst row) (exs row).length p = true
  rw [lead_congr hnx _ hpr]
  exact lead_ok _ hpr (by rw [exs_len hp]; omega)
end EF

set_option Elab.async false
set_option linter.all false
set_option maxRecDepth 100000
set_option maxHeartbeats 4000000
namespace LW
open PySem PySem.Spec PyProof.Rows L2 BC Evl TR EF L2.DX
local macro_rules | `(tactic| walk_at "sx") => `(tactic| try simp only [x_callS, x_sortSetB, x_makeS, x_makeKS, x_seq, x_next, x_brk, x_cnt, x_nev, x_ret, x_retN, x_drop, x_ifS, x_asg, x_gn, x_gsub, x_par, x_par3, x_aug, x_for, x_lc, x_rng1, x_rng2, x_rng3, x_ilist, x_itup, x_ienum, x_izip, x_izipA, x_istr, x_var, x_c, x_op, x_un, x_test, x_b, x_chain, x_and, x_or, x_not, x_andV, x_orV, x_notV, x_ife, x_nil, x_cons, x_lst, x_tup, x_cb, x_call, x_callK, x_bm, x_bm0, x_tru, x_sl, x_nopart, x_part, x_revL, x_I0, x_I, x_U, x_ip, x_ipC, x_eqI, x_neI, x_eqB, x_neB, x_eqS, x_neS, x_isB, x_isNB, x_lrg, x_gall, x_lenSet, x_sortSet, x_rg1, x_rg2, x_dnewK, x_dnewT, x_dget, x_dget1, x_dget2, x_din, x_dnotin, x_dput, x_ikeys, x_fld, x_sfld, x_prop, x_meth, x_make, x_dc, x_callO, x_callOK,
  L2.start, List.map_cons, List.map_nil, List.length_cons, List.length_nil, Nat.reduceAdd, Nat.reduceSub, Nat.sub_self, Nat.zero_add, List.replicate, List.replicate_succ, List.replicate_zero, List.append_nil, List.cons_append, List.nil_append, List.set_cons_zero, List.set_cons_succ, List.getElem?_cons_zero, List.getElem?_cons_succ, Option.some.injEq, V.int.injEq, V.bl.injEq, V.ref.injEq, V.str.injEq, List.cons.injEq, and_true, true_and, exists_eq_left', exists_eq_left, exists_and_left, exists_eq, if_true, if_false, ite_true, ite_false, Bool.true_eq_false, Bool.false_eq_true, reduceIte, reduceCtorEq, Bool.not_true, Bool.not_false, decide_true, decide_false, decide_eq_true_eq, Bool.and_true, Bool.true_and, Bool.and_self, Bool.and_false, Bool.false_and, Bool.or_self, Bool.or_false, Bool.false_or, Bool.or_true, Bool.true_or, eq_self])
section
variable {P : Program} {w : World} {K : PySem.W.Frag} {mg : Str → Option Value} {base : Heap}
def dP (q : Int × Int) : PyData := .tuple [.int q.1, .int q.2]
theorem eff_data {d1 d2 : PyData} (c : effD d1 d2 = true) : d2 = .list ((qsOf d2).map dP) := by
  have key : ∀ ds : List PyData, ds.all pairD = true → ds = (ds.map qD).map dP := fun ds h => by
    induction ds with
    | nil => rfl
    | cons d ds ih =>
      rw [List.all_cons, Bool.and_eq_true] at h
      obtain ⟨a, b, rfl, _⟩ := pair_at h.1
      rw [List.map_cons, List.map_cons, ← ih h.2]
      rfl
  by_cases n : d1 = .none
  · subst n
    cases d2 with
    | list ds =>
      have e : ds = [] := of_decide_eq_true c
      subst e
      rfl
    | _ => cases c
  · rw [eff_other n, Bool.and_eq_true, Bool.and_eq_true] at c
    have c2 := c.1.2
    cases d2 with
    | list ds =>
      have c' : (decide (ds ≠ []) && ds.all pairD && okQ (ds.map qD)) = true := c2
      rw [Bool.and_eq_true, Bool.and_eq_true] at c'
      exact congrArg PyData.list (key ds c'.1.2)
    | _ => cases c2
theorem pairs_de {H : Hp} {l : Addr} {ts : List Addr} {qs : List (Int × Int)} (hl : H l = some (.lst (ts.map V.ref))) (hlen : ts.length = qs.length) (hts : ∀ i u, ts[i]? = some u → PairAt H u (qs.getD i (0, 0))) : De K H (.ref l) (.list (qs.map dP)) := by
  refine .lst (.inl (.inl hl)) ?_
  have h : ∀ (ts : List Addr) (qs : List (Int × Int)), ts.length = qs.length → (∀ i u, ts[i]? = some u → PairAt H u (qs.getD i (0, 0))) → DeAll K H (ts.map V.ref) (qs.map dP) := fun ts => by
    induction ts with
    | nil => intro qs e _; cases qs with | nil => exact .nil | cons q qs => simp at e
    | cons t ts ih =>
      intro qs e h
      cases qs with
      | nil => simp at e
      | cons q qs =>
        refine .cons (.tup (.inl (.inl (pr_ev (h 0 t rfl)))) (.cons (.int _) (.cons (.int _) .nil))) (ih qs (by simpa using e) fun i u hi => ?_)
        have := h (i + 1) u (by simpa using hi)
        simpa using this
  exact h ts _ hlen hts
theorem pairs_dx {H : Hp} : ∀ {ts : List Addr} {qs : List (Int × Int)}, ts.length = qs.length → (∀ i u, ts[i]? = some u → PairAt H u (qs.getD i (0, 0))) → DxAll H (ts.map V.ref) (qs.map dP)
  | [], [], _, _ => .nil
  | [], _ :: _, h, _ => by simp at h
  | _ :: _, [], h, _ => by simp at h
  | t :: ts, q :: qs, h, hp => .cons (.tup (pr_ev (hp 0 t rfl)) (.cons (.int _) (.cons (.int _) .nil))) (pairs_dx (by simpa using h) fun i u hi => by
    have := hp (i + 1) u (by simpa using hi)
    simpa using this)
theorem lay_pairs : ∀ qs : List (Int × Int), PyData.canLay0 (.list (qs.map dP)) = true
  | [] => rfl
  | q :: qs => by
    have := lay_pairs qs
    show (PyData.canLay0 (dP q) && PyData.canLayAll0 (qs.map dP)) = true
    have h2 : PyData.canLayAll0 (qs.map dP) = true := this
    rw [h2]
    rfl
theorem gd_pairs2 {row : List Int} (hp : Pg 40 row) : Gd 4 110000 (.list ((exs row).map dP)) := by
  have h40 := exs_len40 row
  refine (Gd.list (n := 1) (W := 262) fun d m => ?_).mono (by omega) (by rw [List.length_map]; omega)
  obtain ⟨⟨x, y⟩, hq, rfl⟩ := List.mem_map.mp m
  obtain ⟨h1, h2⟩ := mem_nx ((mem_exs hp).mp hq)
  have a := hp x h1
  have c := hp y h2
  refine (Gd.tuple (n := 0) (W := 130) fun d m => ?_).mono (by omega) (by simp)
  simp only [List.mem_cons, List.mem_nil_iff, or_false] at m
  rcases m with rfl | rfl
  · exact Gd.int (ab40 (by omega))
  · exact Gd.int (ab40 (by omega))
def spRight (K : PySem.W.Frag) : Sp := fun vs H Q _ => ∃ (s b : Addr) (ns : List Int) (c : Nat), vs = [.ref s, .ref b] ∧ (∀ H', Fx b H H' → SqL K H' s (ns.map V.int)) ∧ ns.length ≤ 63 ∧ BagAt H b c ∧ c ≤ 10 ∧ ∀ H', Fx b H H' → Q (.bl true) H'
theorem ok_law_right (T : Txt K mg) : FnG P w K mg base CX0 8 T.f_law_right T.fd_law_right ["_law_script", "_law_bag_here"] (spRight K) := by
  refine fun_okN T.F_law_right sc_law_right (fun vs H Q E h => ?_) (fun cdv A outer s H vs Q E hG hr h => ?_)
  · obtain ⟨s, b, ns, c, rfl, _⟩ := h
    rfl
  · obtain ⟨s, b, ns, c, rfl, hS, hl, hB, hc, k⟩ := h
    apply Exists.intro
    apply And.intro
    · apply pss_cons
      · exact (ps_set (i := 2) sc_law_right.nd rfl (.inl rfl) (pe_call (ok_law_names T) (hr.mono (by decide)) (by rfl) T.m_law_names T.F_law_names.kp T.b_law_names .nil pass0 (pa_cons (pv 1) (pa_cons (pe_ifExp (pt_cmpR (k_eqD (K := K) rfl hr.units) (pv 0) (pe_lst pa_nil) (by rfl)) pe_int pe_int) pa_nil))))
      apply pss_cons
      · exact (ps_set (i := 3) sc_law_right.nd rfl (.inl rfl) (pe_op op_cat (pe_call (ok_law_row T) (hr.mono (by decide)) (by rfl) T.m_law_row T.F_law_row.kp T.b_law_row .nil pass0 (pa_cons (pv 1) (pa_cons (pv 2) (pa_cons (pe_ifExp (pt_cmpR (k_eqD (K := K) rfl hr.units) (pv 0) (pe_lst pa_nil) (by rfl)) pe_int pe_int) pa_nil)))) (pe_slice (k_sl_list (K := K) rfl) (pv 2) po_none (po_some pe_int))))
      apply pss_cons
      · apply ps_for PassesOwn.never rfl
        · exact (k_pi_list (K := K) rfl (pe_op op_cat (pe_call (ok_law_bent T) (hr.mono (by decide)) (by rfl) T.m_law_bent T.F_law_bent.kp T.b_law_bent .nil pass0 (pa_cons (pv 1) (pa_cons (pe_ix (k_ix_list (K := K) rfl) (pv 3) pe_int (fun _ _ => rfl)) (pa_cons (pe_call (ok_law_pairs T) (hr.mono (by decide)) (by rfl) T.m_law_pairs T.F_law_pairs.kp T.b_law_pairs .nil pass0 (pa_cons (pv 3) pa_nil)) pa_nil)))) (pe_lst (pa_cons (pe_tup (pa_cons pe_non (pa_cons (pe_lst pa_nil) pa_nil))) pa_nil))))
        · exact (k_tup (K := K) (n := 2) rfl rfl (pgs_cons (pg_name (i := 5) sc_law_right.nd rfl (.inl rfl)) (pgs_cons (pg_name (i := 4) sc_law_right.nd rfl (.inl rfl)) pgs_nil)))
        · apply pss_cons
          · exact (ps_set (i := 6) sc_law_right.nd rfl (.inl rfl) (pe_ifExp (pt_val (pe_call (ok_law_due T) (hr.mono (by decide)) (by rfl) T.m_law_due T.F_law_due.kp T.b_law_due .nil pass0 (pa_cons (pv 5) (pa_cons (pv 4) pa_nil)))) (pe_lst (pa_cons (pv 5) (pa_cons (pv 4) (pa_cons (pe_callB (k_len (K := K) rfl) (by rfl) T.n_len PySem.boot_len (pa_cons (pv 4) pa_nil)) pa_nil)))) pe_non))
          apply pss_cons
          · exact (ps_set (i := 7) sc_law_right.nd rfl (.inl rfl) (pe_callB (k_reprA (K := K) rfl hG hr.units) (by rfl) T.n_repr (by decide +kernel) (pa_cons (pe_lst (pa_cons (pv 5) (pa_cons (pv 4) pa_nil))) pa_nil)))
          apply pss_one
          apply ps_for PassesOwn.never rfl
          · exact (pi_range1 (by rfl) T.n_range (pa_cons pe_int pa_nil))
          · exact (pg_name (i := 8) sc_law_right.nd rfl (.inl rfl))
          · apply pss_one
            apply ps_if
            · exact (PW.pt (pw_or (pt_cmpR op_ne (pe_callB (k_reprA (K := K) rfl hG hr.units) (by rfl) T.n_repr (by decide +kernel) (pa_cons (pe_call (ok_law_made T) (hr.mono (by decide)) (by rfl) T.m_law_made T.F_law_made.kp T.b_law_made .nil pass0 (pa_cons (pv 8) (pa_cons (pv 5) (pa_cons (pv 4) pa_nil)))) pa_nil)) (pe_callB (k_reprA (K := K) rfl hG hr.units) (by rfl) T.n_repr (by decide +kernel) (pa_cons (pv 6) pa_nil)) (by rfl)) (pw_or1 (pt_cmpR op_ne (pe_callB (k_reprA (K := K) rfl hG hr.units) (by rfl) T.n_repr (by decide +kernel) (pa_cons (pe_lst (pa_cons (pv 5) (pa_cons (pv 4) pa_nil))) pa_nil)) (pv 7) (by rfl)))))
            · apply pss_one
              exact (ps_ret pe_bl)
            · exact pss_nil
      apply pss_cons
      · exact (ps_set (i := 4) sc_law_right.nd rfl (.inl rfl) (pe_call (ok_law_pairs T) (hr.mono (by decide)) (by rfl) T.m_law_pairs T.F_law_pairs.kp T.b_law_pairs .nil pass0 (pa_cons (pv 3) pa_nil)))
      apply pss_cons
      · exact (ps_par (i := 9) (j := 10) (by rfl) sc_law_right.nd rfl rfl (by decide) rfl rfl (pa_cons (pe_makeS T.M_Effect (ok_Effect___init T) (hr.mono (by decide)) (by rfl) T.g_Effect T.b_Effect___init (fun σ => passAt takes0 σ) (pa_cons (pe_ix (k_ix_list (K := K) rfl) (pv 3) pe_int (fun _ _ => rfl)) (pa_cons (pv 4) pa_nil))) (pa_cons (pe_callTy (k_listOf (K := K) rfl) (by rfl) T.n_list (by decide +kernel) (pa_cons (pv 4) pa_nil)) pa_nil)) (by rfl))
      apply pss_cons
      · exact (ps_expr (k_bm0 (K := K) rfl (pe_bm0 PySem.F.plainAttrs_list PySem.F.slot_list_clear PySem.F.type_list_clear mt_clear (pv 4))))
      apply pss_one
      exact (ps_ret (pe_cmpR op_eq (pe_callB (k_reprA (K := K) rfl hG hr.units) (by rfl) T.n_repr (by decide +kernel) (pa_cons (pe_lst (pa_cons (pe_prop (pv 9) T.cl_Effect T.p_Effect_exits (ok_Effect_exits T) (hr.mono (by decide)) T.b_Effect_exits .nil pass0 rfl) (pa_cons (pe_callB (call_lenOwn T.h_Effect___len T.i_Effect___len (ok_Effect___len T) (hr.mono (by decide)) T.b_Effect___len pass0) (by rfl) T.n_len PySem.boot_len (pa_cons (pv 9) pa_nil)) pa_nil))) pa_nil)) (pe_callB (k_reprA (K := K) rfl hG hr.units) (by rfl) T.n_repr (by decide +kernel) (pa_cons (pe_lst (pa_cons (pv 10) (pa_cons (pe_callB (k_len (K := K) rfl) (by rfl) T.n_len PySem.boot_len (pa_cons (pv 10) pa_nil)) pa_nil))) pa_nil)) (by rfl)))
    refine seq_cut (fun σ' H' => ∃ (nm : Addr) (ms : List Int), σ' = [some (.ref s), some (.ref b), some (.ref nm), none, none, none, none, none, none, none, none] ∧ Fx b H H' ∧ BagAt H' b (c + 4) ∧ nm ≠ b ∧ H' nm = some (.lst (ms.map V.int)) ∧ 1 ≤ ms.length ∧ ms.length ≤ 40 ∧ Pg 40 ms) (fun N hN => ?_) (fun σ1 H1 hC => ?_)
    · walk_at "sx"
      refine ⟨sz_ok (by omega), fun z nz1 => ?_⟩
      have ez := Ex.new nz1 (o := .lst [])
      refine eqInts (ms := []) (hS _ (Fx.of ez)) (.inl (.inl upd_same)) ⟨_, rfl, ?_⟩
      have bz := hB.ex ez
      split
      · refine ⟨b, 4, c, rfl, by omega, by omega, bz, by omega, fun p ms H1 np f1 b1 hp l1 l2 pg => ?_⟩
        exact hN _ _ ⟨p, ms, rfl, (Fx.of ez).trans f1, b1, bz.apart np, hp, l1, l2, pg⟩
      · refine ⟨b, 40, c, rfl, by omega, by omega, bz, by omega, fun p ms H1 np f1 b1 hp l1 l2 pg => ?_⟩
        exact hN _ _ ⟨p, ms, rfl, (Fx.of ez).trans f1, b1, bz.apart np, hp, l1, l2, pg⟩
    obtain ⟨nm, ms, rfl, f1, b1, nmb, hnm, m1, m2, mp⟩ := hC
    refine seq_cut (fun σ' H' => ∃ (a : Addr) (row : List Int), σ' = [some (.ref s), some (.ref b), some (.ref nm), some (.ref a), none, none, none, none, none, none, none] ∧ Fx b H H' ∧ BagAt H' b (c + 404) ∧ a ≠ b ∧ H' a = some (.lst (row.map V.int)) ∧ row.length ≤ 121 ∧ Pg 40 row ∧ row ≠ []) (fun N hN => ?_) (fun σ2 H2 hC => ?_)
    · walk_at "sx"
      refine ⟨sz_ok (by omega), fun z nz1 => ?_⟩
      have ez := Ex.new nz1 (o := .lst [])
      refine eqInts (ms := []) (hS _ (f1.trans (Fx.of ez))) (.inl (.inl upd_same)) ⟨_, rfl, ?_⟩
      have bz := b1.ex ez
      have fin : ∀ (m : Nat) (p : Addr) (L : List Int) (H3 : Hp), m ≤ 120 → Fx b H1 H3 → BagAt H3 b (c + 404) → p ≠ b → H3 p = some (.lst (L.map V.int)) → L.length ≤ m → Pg 40 L → rSlL K (.ref nm) none (some 1) H3 fun y H2 => rCat (.ref p) y H2 fun x H1 => N [some (.ref s), some (.ref b), some (.ref nm), some x, none, none, none, none, none, none, none] H1 := fun m p L H3 hm f3 b3 npb hpL hLm pg => by
        refine slXE (.inl (.inl (f3 _ _ nmb hnm))) fun z2 G y m2' e2 h2 q2 l2 p2 => ?_
        rw [show (1 : Int) = ((1 : Nat) : Int) from rfl, cut_take, ← List.map_take] at q2
        rw [q2] at h2
        refine catE (e2 _ _ hpL) h2 (by rw [List.length_map, List.length_map, List.length_take]; omega) fun q G2 m3 e3 h3 => ?_
        have b4 := b3.ex e2
        refine hN _ _ ⟨q, L ++ ms.take 1, rfl, (f1.trans f3).trans (Fx.of (e2.trans e3)), b4.ex e3, b4.apart m3, by rw [h3, List.map_append], by rw [List.length_append, List.length_take]; omega, fun v hv => ?_, fun e => ?_⟩
        · rcases List.mem_append.mp hv with hv | hv
          · exact pg v hv
          · exact mp v (List.mem_of_mem_take hv)
        · have := congrArg List.length e
          rw [List.length_append, List.length_take, List.length_nil] at this
          omega
      split
      · exact ⟨b, nm, ms, 6, c + 4, rfl, ez _ _ hnm, nmb, m1, m2, mp, by omega, bz, by omega, fun p L H2 np f2 b2 hp hl pg => fin 6 p L H2 (by omega) ((Fx.of ez).trans f2) b2 (bz.apart np) hp hl pg⟩
      · exact ⟨b, nm, ms, 120, c + 4, rfl, ez _ _ hnm, nmb, m1, m2, mp, by omega, bz, by omega, fun p L H2 np f2 b2 hp hl pg => fin 120 p L H2 (by omega) ((Fx.of ez).trans f2) b2 (bz.apart np) hp hl pg⟩
    obtain ⟨a, row, rfl, f2, b2, nab, hA, hrl, hp, hne⟩ := hC
    obtain ⟨p0, r0, rfl⟩ : ∃ p0 r0, row = p0 :: r0 := by
      cases row with
      | nil => exact absurd rfl hne
      | cons p0 r0 => exact ⟨p0, r0, rfl⟩
    refine seq_cut (fun σ' H' => ∃ l4 l5 l6 l7 l8, σ' = [some (.ref s), some (.ref b), some (.ref nm), some (.ref a), l4, l5, l6, l7, l8, none, none] ∧ Fx b H2 H') (fun N hN => ?_) (fun σ3 H3 hC => ?_)
    · walk_at "sx"
      refine ixL (.inl (.inl hA)) (atI_n (j := 0) rfl rfl) ?_
      refine ⟨a, p0 :: r0, rfl, .inl (.inl hA), by omega, hp, fun pl ts G1 npl e1 hpl hPA => ?_⟩
      have bG := b2.ex e1
      obtain ⟨ob, hob⟩ : ∃ ob : List V, G1 b = some (.lst ob) := by
        obtain ⟨x0, x1, x2, h, _⟩ := bG
        exact ⟨_, h⟩
      refine ⟨b, pl, p0, p0 :: r0, ts, c + 404, rfl, b2.apart npl, hpl, hPA, hp, List.mem_cons_self, fun t ht e => ?_, bG, by omega, fun l us G2 f3 b3 nlb hl2 ul hu => ?_⟩
      · obtain ⟨k', hk1, hk2⟩ := List.getElem_of_mem ht
        have := pr_ev (hPA.2.2 k' t (List.getElem?_eq_some_iff.mpr ⟨hk1, hk2⟩))
        rw [e, hob] at this
        cases this
      refine ⟨sz_ok (by omega), fun z1 m1 => ?_⟩
      have e1' := Ex.new m1 (o := .lst [])
      have h1 := upd_same (H := G2) (a := z1) (o := .lst [])
      generalize upd G2 z1 (.lst []) = G3 at e1' h1 ⊢
      refine ⟨sz_ok (by omega), fun z2 m2' => ?_⟩
      have e2' := Ex.new m2' (o := .tup [V.non, V.ref z1])
      have h2 := upd_same (H := G3) (a := z2) (o := .tup [V.non, V.ref z1])
      generalize upd G3 z2 (.tup [V.non, V.ref z1]) = G4 at e2' h2 ⊢
      refine ⟨sz_ok (by omega), fun z3 m3 => ?_⟩
      have e3' := Ex.new m3 (o := .lst [V.ref z2])
      have h3 := upd_same (H := G4) (a := z3) (o := .lst [V.ref z2])
      generalize upd G4 z3 (.lst [V.ref z2]) = G5 at e3' h3 ⊢
      have E5 := (e1'.trans e2').trans e3'
      refine catE (E5 _ _ hl2) h3 (by rw [List.length_map]; simp <;> omega) fun q G6 m6 e6 h6 => ?_
      have E6 := E5.trans e6
      have hq : G6 q = some (.lst ((us ++ [z2]).map V.ref)) := by rw [h6, List.map_append]; rfl
      have hargs : ∀ u ∈ us ++ [z2], ArgT G6 u := fun u hu5 => by
        rcases List.mem_append.mp hu5 with hu5 | hu5
        · exact (hu u hu5).ex (hid_ex.trans E6)
        · rw [List.mem_singleton.mp hu5]
          exact ⟨.non, .ref z1, (e3'.trans e6) _ _ h2, ⟨_, .inl ⟨.non, rfl⟩, fun es e => (by cases e), Gd.non.mono (by omega) (by omega)⟩, row_lst (((e2'.trans e3').trans e6) _ _ h1) (fun v hv => by simp at hv) (by simp)⟩
      generalize us ++ [z2] = uq at hq hargs
      refine ⟨_, rfl, ⟨_, .inl (.inl hq)⟩, ?_⟩
      have F6 : Fx b H2 G6 := ((Fx.of e1).trans f3).trans (Fx.of E6)
      refine lg_list (xs := uq.map V.ref) (fun i σ' G => ∃ l4 l5 l6 l7 l8, σ' = [some (.ref s), some (.ref b), some (.ref nm), some (.ref a), l4, l5, l6, l7, l8, none, none] ∧ Ex G6 G) ⟨none, none, none, none, none, rfl, Ex.refl _⟩ (fun i σ' G _ hP => by obtain ⟨_, _, _, _, _, _, e⟩ := hP; exact .inl (.inl (e _ _ hq))) (fun i v σ' G hv hP => ?_) (fun σ' G hP => ?_)
      · obtain ⟨l4, l5, l6, l7, l8, rfl, e⟩ := hP
        obtain ⟨u, hu7, rfl⟩ := refs_at hv
        obtain ⟨v1, v2, q1, ⟨d1, A1, L1, g1⟩, ⟨d2, A2, L2, g2⟩⟩ := (hargs u (List.mem_of_getElem? hu7)).ex e
        have g12 : Gd 5 220002 (.list [d1, d2]) := (Gd.list (n := 4) (W := 110000) fun d m => by
          simp only [List.mem_cons, List.mem_nil_iff, or_false] at m
          rcases m with rfl | rfl
          · exact g1
          · exact g2).mono (by omega) (by simp)
        refine g_two q1 ?_
        simp only [List.set_cons_zero, List.set_cons_succ]
        refine seq_asg (fun w' H' => Ex G H' ∧ De K H' w' (if effD d1 d2 = true then .list [d1, d2, .int ((qsOf d2).length : Nat)] else .none)) (fun R hR => ?_) (fun w' H8 hC => ?_)
        · walk_at "sx"
          refine ⟨v1, v2, d1, d2, rfl, A1, A2, L2, fun H1 e1 => ⟨_, rfl, ?_⟩⟩
          cases c : effD d1 d2 with
          | true =>
            rw [if_pos rfl]
            obtain ⟨a5, ts5, rfl, hA5, _⟩ := eff_at (K := K) (A2.ex e1) c
            refine lenL hA5.1 ⟨sz_ok (by omega), fun z m => hR _ _ ⟨e1.trans (Ex.new m), ?_⟩⟩
            rw [if_pos c, List.length_map, hA5.2.1]
            have em := Ex.new m (o := .lst [v1, V.ref a5, V.int ((qsOf d2).length : Nat)])
            exact .lst (.inl (.inl upd_same)) (.cons (A1.ex (e1.trans em)).de (.cons (A2.ex (e1.trans em)).de (.cons (.int _) .nil)))
          | false =>
            rw [if_neg (by decide)]
            exact hR _ _ ⟨e1, by rw [if_neg (by rw [c]; decide)]; exact .non⟩
        obtain ⟨e8, hw8⟩ := hC
        try simp only [List.set_cons_zero, List.set_cons_succ]
        refine seq_asg (fun v H' => v = .str (PyData.list [d1, d2]).shown ∧ Ex H8 H') (fun R hR => ?_) (fun v H9 hC => ?_)
        · walk_at "sx"
          refine ⟨sz_ok (by omega), fun z m => ?_⟩
          have em := Ex.new m (o := .lst [v1, v2])
          refine reprA (K := K) (d := .list [d1, d2]) (.lst (.inl (.inl upd_same)) (.cons (A1.ex (e8.trans em)).de (.cons (A2.ex (e8.trans em)).de .nil))) g12 (by omega) (by omega) (hR _ _ ⟨rfl, em⟩)
        obtain ⟨rfl, e9⟩ := hC
        try simp only [List.set_cons_zero, List.set_cons_succ]
        walk_at "sx"
        refine ⟨by decide, by decide, ?_⟩
        refine lg_rng (fun m σ' G7 => ∃ l8, σ' = [some (.ref s), some (.ref b), some (.ref nm), some (.ref a), some v2, some v1, some w', some (.str (PyData.list [d1, d2]).shown), l8, none, none] ∧ Ex H9 G7) ⟨l8, rfl, Ex.refl _⟩ (fun m σ' G7 hm hP => ?_) (fun σ' G7 hP => ?_)
        · obtain ⟨l8, rfl, e7⟩ := hP
          have hm2 : m < 2 := hm
          have E7 := (e8.trans e9).trans e7
          walk_at "sx"
          have tail : ∀ {v : V} {d : PyData} {G8 : Hp}, Ex G7 G8 → De K G8 v d → Gd 5 330003 d → d = (if effD d1 d2 = true then .list [d1, d2, .int ((qsOf d2).length : Nat)] else .none) → rReprA K [v] G8 fun x H1 => rReprA K [w'] H1 fun y H2 => rNe x y H2 fun x H' => ∃ k, x = V.bl k ∧ if k = true then Q (V.bl false) H' else 2 ≤ sizeLine ∧ ∀ (p : Addr), H' p = none → rReprA K [V.ref p] (upd H' p (HO.lst [v1, v2])) fun x H1 => rNe x (V.str (PyData.list [d1, d2]).shown) H1 fun x H' => ∃ k, x = V.bl k ∧ if k = true then Q (V.bl false) H' else Ex H9 H' := fun {v d G8} e10 hv g he => by
            refine reprA (K := K) hv g (by omega) (by omega) ?_
            refine reprA (K := K) (d := d) (by rw [he]; exact De.ex ((e9.trans e7).trans e10) _ _ hw8) g (by omega) (by omega) ?_
            refine x_neS.mpr ⟨_, rfl, ?_⟩
            rw [if_neg (by simp)]
            refine ⟨sz_ok (by omega), fun z m => ?_⟩
            have em := Ex.new m (o := .lst [v1, v2])
            have E8 := (E7.trans e10).trans em
            refine reprA (K := K) (d := .list [d1, d2]) (.lst (.inl (.inl upd_same)) (.cons (A1.ex E8).de (.cons (A2.ex E8).de .nil))) g12 (by omega) (by omega) ?_
            refine x_neS.mpr ⟨_, rfl, ?_⟩
            rw [if_neg (by simp)]
            exact (e7.trans e10).trans em
          refine ⟨m, v1, v2, d1, d2, by rw [Int.zero_add], by omega, A1.ex E7, A2.ex E7, L2, fun c l pl ts G8 e10 hl hpl hlen hts => ?_, fun c G8 e10 => tail e10 .non (Gd.non.mono (by omega) (by omega)) (by rw [if_neg (by rw [c]; decide)])⟩
          have ed := eff_data c
          have E8 := E7.trans e10
          refine tail (d := .list [d1, .list ((qsOf d2).map dP), .int ((qsOf d2).length : Nat)]) e10 (.lst (.inl (.inl hl)) (.cons (A1.ex E8).de (.cons (pairs_de hpl hlen hts) (.cons (.int _) .nil)))) ?_ (by rw [if_pos c, ← ed])
          have lq : (qsOf d2).length ≤ 900 := by
            rw [ed] at L2
            have := L2 _ rfl
            rw [List.length_map] at this
            exact this
          rw [← ed]
          refine (Gd.list (n := 4) (W := 110000) fun d m => ?_).mono (by omega) (by simp)
          simp only [List.mem_cons, List.mem_nil_iff, or_false] at m
          rcases m with rfl | rfl | rfl
          · exact g1
          · exact g2
          · exact (Gd.int (Nat.lt_of_lt_of_le (m := 1000) (by omega) (by decide))).mono (by omega) (by omega)
        · obtain ⟨l8, rfl, e7⟩ := hP
          walk_at "sx"
          exact ⟨_, _, _, _, _, ⟨rfl, rfl, rfl, rfl, rfl⟩, ((e.trans e8).trans e9).trans e7⟩
      · obtain ⟨l4, l5, l6, l7, l8, rfl, e⟩ := hP
        exact hN _ _ ⟨l4, l5, l6, l7, l8, rfl, F6.trans (Fx.of e)⟩
    obtain ⟨l4, l5, l6, l7, l8, rfl, f3⟩ := hC
    have hA3 := f3 _ _ nab hA
    walk_at "sx"
    refine ⟨a, p0 :: r0, rfl, .inl (.inl hA3), by omega, hp, fun pl ts G1 npl e1 hpl hPA => ?_⟩
    refine ixL (.inl (.inl (e1 _ _ hA3))) (atI_n (j := 0) rfl rfl) ?_
    intro x dx nx ndx ne
    have E0 : Ex G1 (upd (upd G1 dx (.own x)) x (.ins T.C_Effect dx [])) := (Ex.new ndx).mut nx
    have h40 := exs_len40 (p0 :: r0)
    have gp := gd_pairs2 hp
    have hax : ArgX (upd (upd G1 dx (.own x)) x (.ins T.C_Effect dx [])) (.ref pl) (.list ((exs (p0 :: r0)).map dP)) := .inl ⟨.lst (E0 _ _ hpl) (pairs_dx hPA.2.1 fun i u hi => E0 _ _ (hPA.2.2 i u hi)), shp (lay_pairs _) gp (by omega)⟩
    have hqd : qsOf (.list ((exs (p0 :: r0)).map dP)) = exs (p0 :: r0) := by
      show ((exs (p0 :: r0)).map dP).map qD = _
      rw [List.map_map]
      conv => rhs; rw [← List.map_id (exs (p0 :: r0))]
      rfl
    have hef : effD (.int p0) (.list ((exs (p0 :: r0)).map dP)) = true := by
      have hp0 := hp p0 List.mem_cons_self
      have hq2 : ((exs (p0 :: r0)).map dP).map qD = exs (p0 :: r0) := hqd
      rw [eff_other (by nofun), Bool.and_eq_true, Bool.and_eq_true]
      refine ⟨⟨?_, ?_⟩, ?_⟩
      · show (decide (0 ≤ p0) && decide (p0 ≤ 39)) = true
        rw [decide_eq_true (by omega), decide_eq_true (by omega)]; rfl
      · show (decide ((exs (p0 :: r0)).map dP ≠ []) && ((exs (p0 :: r0)).map dP).all pairD && okQ (((exs (p0 :: r0)).map dP).map qD)) = true
        rw [hq2, ok_exs hp hne, Bool.and_true, Bool.and_eq_true]
        refine ⟨decide_eq_true fun e => ?_, List.all_eq_true.mpr fun d hd => ?_⟩
        · have := (mem_exs hp).mpr (nx_lst hne)
          rw [List.map_eq_nil_iff.mp e] at this
          cases this
        · obtain ⟨⟨u, v⟩, hq, rfl⟩ := List.mem_map.mp hd
          obtain ⟨a1, a2⟩ := mem_nx ((mem_exs hp).mp hq)
          have a3 := hp u a1
          have a4 := hp v a2
          show ((decide (0 ≤ u) && decide (u ≤ 39)) && (decide (0 ≤ v) && decide (v ≤ 39))) = true
          rw [decide_eq_true (by omega), decide_eq_true (by omega), decide_eq_true (by omega), decide_eq_true (by omega)]; rfl
      · show decide (p0 ∈ namesOf (((exs (p0 :: r0)).map dP).map qD)) = true
        rw [hq2]
        obtain ⟨y, hy⟩ := nx_mem (row := p0 :: r0) (p := p0) List.mem_cons_self
        exact decide_eq_true (List.mem_map.mpr ⟨(p0, y), (mem_exs hp).mpr hy, rfl⟩)
    refine ⟨x, dx, .int p0, .ref pl, .int p0, _, rfl, upd_same, .inl ⟨.int p0, rfl⟩, hax, fun ds e => by cases e; rw [List.length_map]; omega, fun c H1 h1 hE => ⟨rfl, ?_⟩, fun c => by rw [hef] at c; cases c⟩
    rw [hqd] at hE
    have hpl1 := h1 _ _ (E0 _ _ hpl) (ne_of_none hpl nx)
    have E1 : Ex G1 H1 := fun b' o hb' => h1 b' o (E0 _ _ hb') (ne_of_none hb' nx)
    refine ⟨pl, _, rfl, .inl (.inl (.inl hpl1)), fun cc nc => ⟨_, _, ⟨rfl, rfl⟩, ?_⟩⟩
    have ec := Ex.new nc (o := .lst (ts.map V.ref))
    have hcc := upd_same (H := H1) (a := cc) (o := .lst (ts.map V.ref))
    generalize upd H1 cc (.lst (ts.map V.ref)) = H2' at ec hcc ⊢
    have hpl2 := ec _ _ hpl1
    have ncp : cc ≠ pl := fun e => by rw [e, hpl1] at nc; cases nc
    refine ⟨tyL hpl2, pl, _, rfl, rfl, hpl2, ?_⟩
    have stay : ∀ {u : Addr} {o : HO}, G1 u = some o ∨ H1 u = some o → (∀ ys, o ≠ .lst ys) → upd H2' pl (.lst []) u = some o := fun {u o} hu hno => by
      have h1u : H1 u = some o := hu.elim (fun h => E1 _ _ h) id
      have ne2 : u ≠ pl := fun e => by rw [e, hpl1] at h1u; cases h1u; exact hno _ rfl
      rw [upd_ne ne2]
      exact ec _ _ h1u
    obtain ⟨dx1, t, d, ts1, q1, q2, q3, q4, q5⟩ := hE
    have hE3 : EffAt T.C_Effect (upd H2' pl (.lst [])) x (.int p0) (exs (p0 :: r0)) := ⟨dx1, t, d, ts1, stay (.inr q1) (fun _ => nofun), stay (.inr q2) (fun _ => nofun), q3, fun i u hi => stay (.inr (pr_ev (q4 i u hi))) (fun _ => nofun), stay (.inr q5) (fun _ => nofun)⟩
    have hts3 : ∀ i u, ts[i]? = some u → PairAt (upd H2' pl (.lst [])) u ((exs (p0 :: r0)).getD i (0, 0)) := fun i u hi => stay (.inl (pr_ev (hPA.2.2 i u hi))) (fun _ => nofun)
    have hcc3 : upd H2' pl (.lst []) cc = some (.lst (ts.map V.ref)) := by rw [upd_ne ncp]; exact hcc
    have E3 : Ex H3 (upd H2' pl (.lst [])) := ((e1.trans E1).trans ec).mut npl
    generalize upd H2' pl (.lst []) = H4 at hE3 hts3 hcc3 E3 ⊢
    clear stay
    have gd2 : Gd 5 330003 (.list [.list ((exs (p0 :: r0)).map dP), .int ((exs (p0 :: r0)).length : Nat)]) := (Gd.list (n := 4) (W := 110000) fun d m => by
      simp only [List.mem_cons, List.mem_nil_iff, or_false] at m
      rcases m with rfl | rfl
      · exact gp
      · exact (Gd.int (Nat.lt_of_lt_of_le (m := 1000) (by omega) (by decide))).mono (by omega) (by omega)).mono (by omega) (by simp)
    have hE4 := hE3
    obtain ⟨dx2, t2, d2', ts2, w1, w2, w3, w4, w5⟩ := hE3
    refine ⟨x, rfl, _, _, w1, ⟨x, _, _, rfl, hE4, fun l ts3 G4 nl e4 hl4 hlen hts4 => ?_⟩⟩
    refine ⟨x, dx2, _, rfl, e4 _ _ w1, ⟨x, _, _, rfl, hE4.ex e4, ⟨_, rfl, by omega, by omega, sz_ok (by omega), fun z m => ?_⟩⟩⟩
    have em := Ex.new m (o := .lst [V.ref l, V.int ((exs (p0 :: r0)).length : Nat)])
    refine reprA (K := K) (d := .list [.list ((exs (p0 :: r0)).map dP), .int ((exs (p0 :: r0)).length : Nat)]) (.lst (.inl (.inl upd_same)) (.cons (pairs_de (em _ _ hl4) hlen fun i u hi => em _ _ (hts4 i u hi)) (.cons (.int _) .nil))) gd2 (by omega) (by omega) ?_
    have hcc5 := em _ _ (e4 _ _ hcc3)
    refine lenL (.inl (.inl hcc5)) ⟨sz_ok (by omega), fun z2 m2' => ?_⟩
    rw [List.length_map, hPA.2.1]
    have em2 := Ex.new m2' (o := .lst [V.ref cc, V.int ((exs (p0 :: r0)).length : Nat)])
    refine reprA (K := K) (d := .list [.list ((exs (p0 :: r0)).map dP), .int ((exs (p0 :: r0)).length : Nat)]) (.lst (.inl (.inl upd_same)) (.cons (pairs_de (em2 _ _ hcc5) hPA.2.1 fun i u hi => em2 _ _ (em _ _ (e4 _ _ (hts3 i u hi)))) (.cons (.int _) .nil))) gd2 (by omega) (by omega) ?_
    refine x_eqS.mpr ?_
    rw [decide_eq_true rfl]
    exact k _ ((f2.trans f3).trans (Fx.of (((E3.trans e4).trans em).trans em2)))
end
end LW

set_option Elab.async false
set_option linter.all false
set_option maxRecDepth 100000
set_option maxHeartbeats 4000000
namespace LW
open PySem PySem.Spec PyProof.Rows L2 BC Evl TR EF L2.DX
local macro_rules | `(tactic| walk_at "sx") => `(tactic| try simp only [x_callS, x_sortSetB, x_makeS, x_makeKS, x_seq, x_next, x_brk, x_cnt, x_nev, x_ret, x_retN, x_drop, x_ifS, x_asg, x_gn, x_gsub, x_par, x_par3, x_aug, x_for, x_lc, x_rng1, x_rng2, x_rng3, x_ilist, x_itup, x_ienum, x_izip, x_izipA, x_istr, x_var, x_c, x_op, x_un, x_test, x_b, x_chain, x_and, x_or, x_not, x_andV, x_orV, x_notV, x_ife, x_nil, x_cons, x_lst, x_tup, x_cb, x_call, x_callK, x_bm, x_bm0, x_tru, x_sl, x_nopart, x_part, x_revL, x_I0, x_I, x_U, x_ip, x_ipC, x_eqI, x_neI, x_eqB, x_neB, x_eqS, x_neS, x_isB, x_isNB, x_lrg, x_gall, x_lenSet, x_sortSet, x_rg1, x_rg2, x_dnewK, x_dnewT, x_dget, x_dget1, x_dget2, x_din, x_dnotin, x_dput, x_ikeys, x_fld, x_sfld, x_prop, x_meth, x_make, x_dc, x_callO, x_callOK,
  L2.start, List.map_cons, List.map_nil, List.length_cons, List.length_nil, Nat.reduceAdd, Nat.reduceSub, Nat.sub_self, Nat.zero_add, List.replicate, List.replicate_succ, List.replicate_zero, List.append_nil, List.cons_append, List.nil_append, List.set_cons_zero, List.set_cons_succ, List.getElem?_cons_zero, List.getElem?_cons_succ, Option.some.injEq, V.int.injEq, V.bl.injEq, V.ref.injEq, V.str.injEq, List.cons.injEq, and_true, true_and, exists_eq_left', exists_eq_left, exists_and_left, exists_eq, if_true, if_false, ite_true, ite_false, Bool.true_eq_false, Bool.false_eq_true, reduceIte, reduceCtorEq, Bool.not_true, Bool.not_false, decide_true, decide_false, decide_eq_true_eq, Bool.and_true, Bool.true_and, Bool.and_self, Bool.and_false, Bool.false_and, Bool.or_self, Bool.or_false, Bool.false_or, Bool.or_true, Bool.true_or, eq_self])
section
variable {P : Program} {w : World} {K : PySem.W.Frag} {mg : Str → Option Value} {base : Heap}
def spLaw (K : PySem.W.Frag) : Sp := fun vs H Q _ => ∃ (s : Addr) (ns : List Int), vs = [.ref s] ∧ SqL K H s (ns.map V.int) ∧ ns.length ≤ 63 ∧ ∀ H', Q (.bl true) H'
def JLw (H2 : Hp) (s : Addr) (i : Nat) (σ' : L2.St) (H' : Hp) : Prop := ∃ j1 j2, σ' = [some (.ref s), j1, j2] ∧ Ex H2 H'
theorem ok_law (T : Txt K mg) : FnG P w K mg base CX0 9 T.f_law T.fd_law ["_law_script"] (spLaw K) := by
  refine fun_okN T.F_law sc_law (fun vs H Q E h => ?_) (fun cdv A outer s H vs Q E hG hr h => ?_)
  · obtain ⟨s, ns, rfl, _⟩ := h
    rfl
  · obtain ⟨s, ns, rfl, hA, hl, k⟩ := h
    apply Exists.intro
    apply And.intro
    · apply pss_cons
      · apply ps_for PassesOwn.never rfl
        · exact (k_pi_enum (K := K) rfl (by rfl) T.n_enumerate (pa_cons (pe_slice (k_sl_list (K := K) rfl) (pe_call (ok_law_cells T) (hr.mono (by decide)) (by rfl) T.m_law_cells T.F_law_cells.kp T.b_law_cells .nil pass0 (pa_cons (pv 0) pa_nil)) po_none (po_some pe_int)) pa_nil))
        · exact (k_tup (K := K) (n := 2) rfl rfl (pgs_cons (pg_name (i := 1) sc_law.nd rfl (.inl rfl)) (pgs_cons (pg_name (i := 2) sc_law.nd rfl (.inl rfl)) pgs_nil)))
        · apply pss_one
          apply ps_if
          · exact (pt_not (pt_val (pe_callG (ok_law_right T) hG (hr.mono (by decide)) (by rfl) T.m_law_right T.F_law_right.kp T.b_law_right .nil pass0 (pa_cons (pv 0) (pa_cons (pe_call (ok_law_bag T) (hr.mono (by decide)) (by rfl) T.m_law_bag T.F_law_bag.kp T.b_law_bag .nil pass0 (pa_cons (pv 2) (pa_cons (pv 1) pa_nil))) pa_nil)))))
          · apply pss_one
            exact (ps_ret pe_bl)
          · exact pss_nil
      apply pss_one
      exact (ps_ret pe_bl)
    walk_at "sx"
    refine ⟨s, ns, rfl, hA, hl, fun p ms H1 np e1 hp lm => ?_⟩
    refine slL (.inl (.inl hp)) fun y ny => ?_
    rw [show (8 : Int) = ((8 : Nat) : Int) from rfl, cut_take, ← List.map_take]
    have ey := Ex.new ny (o := .lst ((ms.take 8).map V.int))
    have hl8 : (ms.take 8).length ≤ 8 := by rw [List.length_take]; omega
    refine ⟨_, rfl, _, .inl (.inl upd_same), ?_⟩
    have hy : (upd H1 y (.lst ((ms.take 8).map V.int))) y = some (.lst ((ms.take 8).map V.int)) := upd_same
    have E := e1.trans ey
    generalize (upd H1 y (.lst ((ms.take 8).map V.int))) = H2 at E hy ⊢
    refine lg_enum (xs := (ms.take 8).map V.int) (JLw H2 s) ⟨none, none, rfl, Ex.refl H2⟩ (fun i σ' H' hi hP => by obtain ⟨_, _, _, e⟩ := hP; exact .inl (.inl (e _ _ hy))) (fun i x σ' H' T' hx hP nT => ?_) (fun σ' H' hP => ?_)
    · obtain ⟨j1, j2, rfl, e⟩ := hP
      obtain ⟨n, hn, rfl⟩ := ints_at hx
      have hi := (List.getElem?_eq_some_iff.mp hn).1
      have eT := Ex.new nT (o := .tup [V.int (i : Nat), V.int n])
      refine g_two upd_same ?_
      walk_at "sx"
      refine ⟨n, i, rfl, by omega, fun q H3 nq e3 hb => ?_⟩
      have E3 := (e.trans eT).trans e3
      have E4 : ∀ H4, Fx q H3 H4 → Ex H2 H4 := fun H4 f4 => (e.trans eT).trans (((Fx.of e3).trans f4).ex nq)
      refine ⟨s, q, ns, 0, rfl, fun H4 f4 => ex_l (E.trans (E4 H4 f4)) hA, hl, hb, by omega, fun H4 f4 => ?_⟩
      walk_at "sx"
      exact ⟨_, _, rfl, E4 H4 f4⟩
    · obtain ⟨j1, j2, rfl, e⟩ := hP
      walk_at "sx"
      exact k _
end
end LW

set_option Elab.async false
set_option linter.all false
set_option maxRecDepth 100000
set_option maxHeartbeats 4000000
namespace LW
open PySem PySem.Spec PyProof.Rows L2 BC Evl TR EF L2.DX
theorem all_mk {l : PySem.W.OpenLaw} {w : World} {K : PySem.W.Frag} {h : Heap} {mg : Str → Option Value} {fa : Addr} (X : K.In h) (G : h.Ns mainGlobals mg) (hfa : mg "law" = some (.ref fa))
    {X0 : Addr} {cdX0 : ClassData}
    {X1 : Addr} {cdX1 : ClassData}
    {C0 : Addr}
    {f0 : Addr} {od0 an0 : Option Addr} {sl0 : Array (Option Value)} {oc0 kV0 dc0 pm0 cd0 ct0 : Value}
    {f1 : Addr} {od1 an1 : Option Addr} {sl1 : Array (Option Value)} {oc1 kV1 dc1 pm1 cd1 ct1 : Value}
    {f2 : Addr} {od2 an2 : Option Addr} {sl2 : Array (Option Value)} {oc2 kV2 dc2 pm2 cd2 ct2 : Value}
    {f3 : Addr} {od3 an3 : Option Addr} {sl3 : Array (Option Value)} {oc3 kV3 dc3 pm3 cd3 ct3 : Value}
    {f4 : Addr} {od4 an4 : Option Addr} {sl4 : Array (Option Value)} {oc4 kV4 dc4 pm4 cd4 ct4 : Value}
    {f5 : Addr} {od5 an5 : Option Addr} {sl5 : Array (Option Value)} {oc5 kV5 dc5 pm5 cd5 ct5 : Value}
    {f6 : Addr} {od6 an6 : Option Addr} {sl6 : Array (Option Value)} {oc6 kV6 dc6 pm6 cd6 ct6 : Value}
    {f7 : Addr} {od7 an7 : Option Addr} {sl7 : Array (Option Value)} {oc7 kV7 dc7 pm7 cd7 ct7 : Value}
    {f8 : Addr} {od8 an8 : Option Addr} {sl8 : Array (Option Value)} {oc8 kV8 dc8 pm8 cd8 ct8 : Value}
    {f9 : Addr} {od9 an9 : Option Addr} {sl9 : Array (Option Value)} {oc9 kV9 dc9 pm9 cd9 ct9 : Value}
    {f10 : Addr} {od10 an10 : Option Addr} {sl10 : Array (Option Value)} {oc10 kV10 dc10 pm10 cd10 ct10 : Value}
    {f11 : Addr} {od11 an11 : Option Addr} {sl11 : Array (Option Value)} {oc11 kV11 dc11 pm11 cd11 ct11 : Value}
    {f12 : Addr} {od12 an12 : Option Addr} {sl12 : Array (Option Value)} {oc12 kV12 dc12 pm12 cd12 ct12 : Value}
    {f13 : Addr} {od13 an13 : Option Addr} {sl13 : Array (Option Value)} {oc13 kV13 dc13 pm13 cd13 ct13 : Value}
    {f14 : Addr} {od14 an14 : Option Addr} {sl14 : Array (Option Value)} {oc14 kV14 dc14 pm14 cd14 ct14 : Value}
    {f15 : Addr} {od15 an15 : Option Addr} {sl15 : Array (Option Value)} {oc15 kV15 dc15 pm15 cd15 ct15 : Value}
    {f16 : Addr} {od16 an16 : Option Addr} {sl16 : Array (Option Value)} {oc16 kV16 dc16 pm16 cd16 ct16 : Value}
    {f17 : Addr} {od17 an17 : Option Addr} {sl17 : Array (Option Value)} {oc17 kV17 dc17 pm17 cd17 ct17 : Value}
    {f18 : Addr} {od18 an18 : Option Addr} {sl18 : Array (Option Value)} {oc18 kV18 dc18 pm18 cd18 ct18 : Value}
    {p18 : Addr} {rest18 : List Value}
    {f19 : Addr} {od19 an19 : Option Addr} {sl19 : Array (Option Value)} {oc19 kV19 dc19 pm19 cd19 ct19 : Value}
    {p19 : Addr} {rest19 : List Value}
    {f20 : Addr} {od20 an20 : Option Addr} {sl20 : Array (Option Value)} {oc20 kV20 dc20 pm20 cd20 ct20 : Value}
    {tt_MOST_PAGE : Tok}
    (xn : PySem.W.specialIn K (.builtin "object.__class__") "__get__" = some (some (.builtin "getset_descriptor.__get__"))) (xt : PySem.W.takesIn K (.builtin "object.__class__") = some true)
    (ax0 : PySem.W.nsIn K mainGlobals "BreadcrumbsError" = some (some (.ref X0)))
    (kx0 : PySem.W.keepIn K (.ref X0) = true)
    (xx0 : PySem.W.excIn K X0 [.type "ValueError", .type "Exception", .type "BaseException", .type "object"] "ValueError.__new__" = true)
    (gx0 : PySem.W.findIn K (.ref X0) "__getattribute__" = some (some (.builtin "BaseException.__getattribute__")))
    (hx0 : PySem.W.findIn K (.ref X0) "__getattr__" = some none)
    (bx0 : PySem.W.subIn K (.ref X0) (.type "BaseException") = some true)
    (dx0 : PySem.W.hasDictIn K X0 = true)
    (cx0 : PySem.W.findIn K (.ref X0) "__class__" = some (some (.builtin "object.__class__")))
    (mx0 : PySem.W.mroIn K X0 (.type "object") = some true)
    (tx0 : PySem.W.typeIn K (.ref X0) = some (.type "type"))
    (lx0 : PySem.W.clsIn K X0 = some cdX0)
    (rx0 : cdX0.mro = [X0].map Value.ref ++ HandSPX.veTail)
    (ax1 : PySem.W.nsIn K mainGlobals "InvalidEffectError" = some (some (.ref X1)))
    (kx1 : PySem.W.keepIn K (.ref X1) = true)
    (xx1 : PySem.W.excIn K X1 [.type "ValueError", .type "Exception", .type "BaseException", .type "object"] "ValueError.__new__" = true)
    (gx1 : PySem.W.findIn K (.ref X1) "__getattribute__" = some (some (.builtin "BaseException.__getattribute__")))
    (hx1 : PySem.W.findIn K (.ref X1) "__getattr__" = some none)
    (bx1 : PySem.W.subIn K (.ref X1) (.type "BaseException") = some true)
    (dx1 : PySem.W.hasDictIn K X1 = true)
    (cx1 : PySem.W.findIn K (.ref X1) "__class__" = some (some (.builtin "object.__class__")))
    (mx1 : PySem.W.mroIn K X1 (.type "object") = some true)
    (tx1 : PySem.W.typeIn K (.ref X1) = some (.type "type"))
    (lx1 : PySem.W.clsIn K X1 = some cdX1)
    (rx1 : cdX1.mro = [X1, X0].map Value.ref ++ HandSPX.veTail)
    (ndx : [X0, X1].Nodup)
    (aC0 : PySem.W.nsIn K mainGlobals "Effect" = some (some (.ref C0))) (pg0 : PySem.W.plainGet K C0 Str.empty = true) (hd0 : PySem.W.hasDictIn K C0 = true) (po0 : PySem.W.plainOver K C0 = true) (sa0 : PySem.W.findIn K (.ref C0) "__setattr__" = some (some (.builtin "object.__setattr__")))
    (ka0 : PySem.W.findIn K (.ref C0) "__class__" = some (some (.builtin "object.__class__")))
    (kn0 : PySem.W.specialIn K (.builtin "object.__class__") "__get__" = some (some (.builtin "getset_descriptor.__get__")))
    (kt0 : PySem.W.takesIn K (.builtin "object.__class__") = some true)
    (km0 : PySem.W.mroIn K C0 (.type "object") = some true)
    (ke0 : PySem.W.isClsIn K C0 = true)
    (kf0 : PySem.W.typeIn K (.ref C0) = some (.type "type"))
    (nf0_list : PySem.W.notFirst K C0 (.type "list") = true)
    (nf0_tuple : PySem.W.notFirst K C0 (.type "tuple") = true)
    (nf0_dict : PySem.W.notFirst K C0 (.type "dict") = true)
    (nf0_int : PySem.W.notFirst K C0 (.type "int") = true)
    (nf0_str : PySem.W.notFirst K C0 (.type "str") = true)
    (nf0_bool : PySem.W.notFirst K C0 (.type "bool") = true)
    (nf0_NoneType : PySem.W.notFirst K C0 (.type "NoneType") = true)
    (sf0 : PySem.W.selfFirst K C0 = true)
    (ob0 : PySem.W.subIn K (.ref C0) (.type "object") = some true)
    (on0 : PySem.W.findIn K (.ref C0) "__ne__" = some (some (.builtin "object.__ne__")))
    (na0_begin_page : PySem.W.findIn K (.ref C0) "begin_page" = some none)
    (na0_pairs : PySem.W.findIn K (.ref C0) "pairs" = some none)
    (na0_exit_of : PySem.W.findIn K (.ref C0) "exit_of" = some none)
    (a0 : PySem.W.nsIn K mainGlobals "is_integer" = some (some (.ref f0))) (l0 : K.lookup f0 = some ⟨oc0, od0, .func (PySem.W.fnOf "is_integer" "is_integer" (defArgs s_is_integer) (defBody s_is_integer) (defScope s_is_integer) .none kV0 dc0 pm0 an0 cd0 ct0), sl0⟩) (c0 : PySem.W.codeIn K cd0 "is_integer" = true) (k0 : PySem.W.keepIn K (.ref f0) = true)
    (a1 : PySem.W.nsIn K mainGlobals "is_page" = some (some (.ref f1))) (l1 : K.lookup f1 = some ⟨oc1, od1, .func (PySem.W.fnOf "is_page" "is_page" (defArgs s_is_page) (defBody s_is_page) (defScope s_is_page) .none kV1 dc1 pm1 an1 cd1 ct1), sl1⟩) (c1 : PySem.W.codeIn K cd1 "is_page" = true) (k1 : PySem.W.keepIn K (.ref f1) = true)
    (a2 : PySem.W.nsIn K mainGlobals "is_pair" = some (some (.ref f2))) (l2 : K.lookup f2 = some ⟨oc2, od2, .func (PySem.W.fnOf "is_pair" "is_pair" (defArgs s_is_pair) (defBody s_is_pair) (defScope s_is_pair) .none kV2 dc2 pm2 an2 cd2 ct2), sl2⟩) (c2 : PySem.W.codeIn K cd2 "is_pair" = true) (k2 : PySem.W.keepIn K (.ref f2) = true)
    (a3 : PySem.W.nsIn K mainGlobals "leads_to_root" = some (some (.ref f3))) (l3 : K.lookup f3 = some ⟨oc3, od3, .func (PySem.W.fnOf "leads_to_root" "leads_to_root" (defArgs s_leads_to_root) (defBody s_leads_to_root) (defScope s_leads_to_root) .none kV3 dc3 pm3 an3 cd3 ct3), sl3⟩) (c3 : PySem.W.codeIn K cd3 "leads_to_root" = true) (k3 : PySem.W.keepIn K (.ref f3) = true)
    (a4 : PySem.W.nsIn K mainGlobals "are_exits" = some (some (.ref f4))) (l4 : K.lookup f4 = some ⟨oc4, od4, .func (PySem.W.fnOf "are_exits" "are_exits" (defArgs s_are_exits) (defBody s_are_exits) (defScope s_are_exits) .none kV4 dc4 pm4 an4 cd4 ct4), sl4⟩) (c4 : PySem.W.codeIn K cd4 "are_exits" = true) (k4 : PySem.W.keepIn K (.ref f4) = true)
    (a5 : PySem.W.nsIn K mainGlobals "_law_bag" = some (some (.ref f5))) (l5 : K.lookup f5 = some ⟨oc5, od5, .func (PySem.W.fnOf "_law_bag" "_law_bag" (defArgs s_law_bag) (defBody s_law_bag) (defScope s_law_bag) .none kV5 dc5 pm5 an5 cd5 ct5), sl5⟩) (c5 : PySem.W.codeIn K cd5 "_law_bag" = true) (k5 : PySem.W.keepIn K (.ref f5) = true)
    (a6 : PySem.W.nsIn K mainGlobals "_law_draw" = some (some (.ref f6))) (l6 : K.lookup f6 = some ⟨oc6, od6, .func (PySem.W.fnOf "_law_draw" "_law_draw" (defArgs s_law_draw) (defBody s_law_draw) (defScope s_law_draw) .none kV6 dc6 pm6 an6 cd6 ct6), sl6⟩) (c6 : PySem.W.codeIn K cd6 "_law_draw" = true) (k6 : PySem.W.keepIn K (.ref f6) = true)
    (a7 : PySem.W.nsIn K mainGlobals "_law_cells" = some (some (.ref f7))) (l7 : K.lookup f7 = some ⟨oc7, od7, .func (PySem.W.fnOf "_law_cells" "_law_cells" (defArgs s_law_cells) (defBody s_law_cells) (defScope s_law_cells) .none kV7 dc7 pm7 an7 cd7 ct7), sl7⟩) (c7 : PySem.W.codeIn K cd7 "_law_cells" = true) (k7 : PySem.W.keepIn K (.ref f7) = true)
    (a8 : PySem.W.nsIn K mainGlobals "_law_names" = some (some (.ref f8))) (l8 : K.lookup f8 = some ⟨oc8, od8, .func (PySem.W.fnOf "_law_names" "_law_names" (defArgs s_law_names) (defBody s_law_names) (defScope s_law_names) .none kV8 dc8 pm8 an8 cd8 ct8), sl8⟩) (c8 : PySem.W.codeIn K cd8 "_law_names" = true) (k8 : PySem.W.keepIn K (.ref f8) = true)
    (a9 : PySem.W.nsIn K mainGlobals "_law_row" = some (some (.ref f9))) (l9 : K.lookup f9 = some ⟨oc9, od9, .func (PySem.W.fnOf "_law_row" "_law_row" (defArgs s_law_row) (defBody s_law_row) (defScope s_law_row) .none kV9 dc9 pm9 an9 cd9 ct9), sl9⟩) (c9 : PySem.W.codeIn K cd9 "_law_row" = true) (k9 : PySem.W.keepIn K (.ref f9) = true)
    (a10 : PySem.W.nsIn K mainGlobals "_law_pairs" = some (some (.ref f10))) (l10 : K.lookup f10 = some ⟨oc10, od10, .func (PySem.W.fnOf "_law_pairs" "_law_pairs" (defArgs s_law_pairs) (defBody s_law_pairs) (defScope s_law_pairs) .none kV10 dc10 pm10 an10 cd10 ct10), sl10⟩) (c10 : PySem.W.codeIn K cd10 "_law_pairs" = true) (k10 : PySem.W.keepIn K (.ref f10) = true)
    (a11 : PySem.W.nsIn K mainGlobals "_law_is_page" = some (some (.ref f11))) (l11 : K.lookup f11 = some ⟨oc11, od11, .func (PySem.W.fnOf "_law_is_page" "_law_is_page" (defArgs s_law_is_page) (defBody s_law_is_page) (defScope s_law_is_page) .none kV11 dc11 pm11 an11 cd11 ct11), sl11⟩) (c11 : PySem.W.codeIn K cd11 "_law_is_page" = true) (k11 : PySem.W.keepIn K (.ref f11) = true)
    (a12 : PySem.W.nsIn K mainGlobals "_law_due" = some (some (.ref f12))) (l12 : K.lookup f12 = some ⟨oc12, od12, .func (PySem.W.fnOf "_law_due" "_law_due" (defArgs s_law_due) (defBody s_law_due) (defScope s_law_due) .none kV12 dc12 pm12 an12 cd12 ct12), sl12⟩) (c12 : PySem.W.codeIn K cd12 "_law_due" = true) (k12 : PySem.W.keepIn K (.ref f12) = true)
    (a13 : PySem.W.nsIn K mainGlobals "_law_bent" = some (some (.ref f13))) (l13 : K.lookup f13 = some ⟨oc13, od13, .func (PySem.W.fnOf "_law_bent" "_law_bent" (defArgs s_law_bent) (defBody s_law_bent) (defScope s_law_bent) .none kV13 dc13 pm13 an13 cd13 ct13), sl13⟩) (c13 : PySem.W.codeIn K cd13 "_law_bent" = true) (k13 : PySem.W.keepIn K (.ref f13) = true)
    (a14 : PySem.W.nsIn K mainGlobals "_law_made" = some (some (.ref f14))) (l14 : K.lookup f14 = some ⟨oc14, od14, .func (PySem.W.fnOf "_law_made" "_law_made" (defArgs s_law_made) (defBody s_law_made) (defScope s_law_made) .none kV14 dc14 pm14 an14 cd14 ct14), sl14⟩) (c14 : PySem.W.codeIn K cd14 "_law_made" = true) (k14 : PySem.W.keepIn K (.ref f14) = true)
    (a15 : PySem.W.nsIn K mainGlobals "_law_right" = some (some (.ref f15))) (l15 : K.lookup f15 = some ⟨oc15, od15, .func (PySem.W.fnOf "_law_right" "_law_right" (defArgs s_law_right) (defBody s_law_right) (defScope s_law_right) .none kV15 dc15 pm15 an15 cd15 ct15), sl15⟩) (c15 : PySem.W.codeIn K cd15 "_law_right" = true) (k15 : PySem.W.keepIn K (.ref f15) = true)
    (a16 : PySem.W.nsIn K mainGlobals "law" = some (some (.ref f16))) (l16 : K.lookup f16 = some ⟨oc16, od16, .func (PySem.W.fnOf "law" "law" (defArgs s_law) (defBody s_law) (defScope s_law) .none kV16 dc16 pm16 an16 cd16 ct16), sl16⟩) (c16 : PySem.W.codeIn K cd16 "law" = true) (k16 : PySem.W.keepIn K (.ref f16) = true)
    (a17 : PySem.W.findIn K (.ref C0) "__init__" = some (some (.ref f17))) (i17 : PySem.W.isFn K (.ref f17) = true) (l17 : K.lookup f17 = some ⟨oc17, od17, .func (PySem.W.fnOf "__init__" "Effect.__init__" (defArgs s_Effect___init) (defBody s_Effect___init) (defScope s_Effect___init) .none kV17 dc17 pm17 an17 cd17 ct17), sl17⟩) (c17 : PySem.W.codeIn K cd17 "Effect.__init__" = true) (k17 : PySem.W.keepIn K (.ref f17) = true)
    (mk0 : PySem.W.makesIn K C0 = true) (kc0 : PySem.W.keepIn K (.ref C0) = true)
    (a18 : PySem.W.findIn K (.ref C0) "first" = some (some (.ref p18))) (g18 : PySem.W.specialIn K (.ref p18) "__get__" = some (some (.builtin "property.__get__"))) (t18 : PySem.W.takesIn K (.ref p18) = some true) (r18 : PySem.W.recIn K p18 "property" = some (.ref f18 :: rest18)) (l18 : K.lookup f18 = some ⟨oc18, od18, .func (PySem.W.fnOf "first" "Effect.first" (defArgs s_Effect_first) (defBody s_Effect_first) (defScope s_Effect_first) .none kV18 dc18 pm18 an18 cd18 ct18), sl18⟩) (c18 : PySem.W.codeIn K cd18 "Effect.first" = true) (k18 : PySem.W.keepIn K (.ref f18) = true)
    (a19 : PySem.W.findIn K (.ref C0) "exits" = some (some (.ref p19))) (g19 : PySem.W.specialIn K (.ref p19) "__get__" = some (some (.builtin "property.__get__"))) (t19 : PySem.W.takesIn K (.ref p19) = some true) (r19 : PySem.W.recIn K p19 "property" = some (.ref f19 :: rest19)) (l19 : K.lookup f19 = some ⟨oc19, od19, .func (PySem.W.fnOf "exits" "Effect.exits" (defArgs s_Effect_exits) (defBody s_Effect_exits) (defScope s_Effect_exits) .none kV19 dc19 pm19 an19 cd19 ct19), sl19⟩) (c19 : PySem.W.codeIn K cd19 "Effect.exits" = true) (k19 : PySem.W.keepIn K (.ref f19) = true)
    (a20 : PySem.W.findIn K (.ref C0) "__len__" = some (some (.ref f20))) (i20 : PySem.W.isFn K (.ref f20) = true) (l20 : K.lookup f20 = some ⟨oc20, od20, .func (PySem.W.fnOf "__len__" "Effect.__len__" (defArgs s_Effect___len) (defBody s_Effect___len) (defScope s_Effect___len) .none kV20 dc20 pm20 an20 cd20 ct20), sl20⟩) (c20 : PySem.W.codeIn K cd20 "Effect.__len__" = true) (k20 : PySem.W.keepIn K (.ref f20) = true)
    (q_MOST_PAGE : PySem.W.nsIn K mainGlobals "MOST_PAGE" = some (some (.int 39 tt_MOST_PAGE)))
    (z_all : PySem.W.nsIn K mainGlobals "all" = some none)
    (z_any : PySem.W.nsIn K mainGlobals "any" = some none)
    (z_bool : PySem.W.nsIn K mainGlobals "bool" = some none)
    (z_dict : PySem.W.nsIn K mainGlobals "dict" = some none)
    (z_enumerate : PySem.W.nsIn K mainGlobals "enumerate" = some none)
    (z_int : PySem.W.nsIn K mainGlobals "int" = some none)
    (z_isinstance : PySem.W.nsIn K mainGlobals "isinstance" = some none)
    (z_len : PySem.W.nsIn K mainGlobals "len" = some none)
    (z_list : PySem.W.nsIn K mainGlobals "list" = some none)
    (z_max : PySem.W.nsIn K mainGlobals "max" = some none)
    (z_min : PySem.W.nsIn K mainGlobals "min" = some none)
    (z_range : PySem.W.nsIn K mainGlobals "range" = some none)
    (z_repr : PySem.W.nsIn K mainGlobals "repr" = some none)
    (z_set : PySem.W.nsIn K mainGlobals "set" = some none)
    (z_sorted : PySem.W.nsIn K mainGlobals "sorted" = some none)
    (z_str : PySem.W.nsIn K mainGlobals "str" = some none)
    (z_tuple : PySem.W.nsIn K mainGlobals "tuple" = some none)
    (z_zip : PySem.W.nsIn K mainGlobals "zip" = some none) :
    ∃ fd : FuncData, (∀ (s : Shared) (v : Value), BindsTo s fd ⟨[v], []⟩ [("_law_script", v)]) ∧ ∀ base : Heap, K.In base → base.Ns mainGlobals mg → FnG l.prog w K mg base CX0 9 fa fd ["_law_script"] (spLaw K) := by
  have e := hfa.symm.trans (PySem.W.mg_of X G a16)
  cases e
  let T : Txt K mg := ⟨X0, PySem.W.mg_of X G ax0, kx0, xx0, ⟨gx0, hx0, bx0, dx0, cx0, xn, xt, mx0⟩, tx0, bx0, ⟨cdX0, lx0, rx0⟩,
    X1, PySem.W.mg_of X G ax1, kx1, xx1, ⟨gx1, hx1, bx1, dx1, cx1, xn, xt, mx1⟩, tx1, bx1, ⟨cdX1, lx1, rx1⟩,
    ndx,
    C0, ⟨pg0, hd0, po0, sa0⟩, PySem.W.mg_of X G aC0,
    ⟨⟨pg0, hd0, po0, sa0⟩, ka0, kn0, kt0, km0, ke0, kf0, nf0_list, nf0_tuple, nf0_dict, nf0_int, nf0_str, nf0_bool, nf0_NoneType, sf0, ob0, on0⟩,
    na0_begin_page,
    na0_pairs,
    na0_exit_of,
    f0, _, fun_mk (st := s_is_integer) l0 c0 k0, PySem.W.mg_of X G a0, (fun_mk (st := s_is_integer) l0 c0 k0).binds fun _ _ _ _ _ _ us hl => match us, hl with | [_, _, _], _ => rfl,
    f1, _, fun_mk (st := s_is_page) l1 c1 k1, PySem.W.mg_of X G a1, (fun_mk (st := s_is_page) l1 c1 k1).binds fun _ _ _ _ _ _ us hl => match us, hl with | [_], _ => rfl,
    f2, _, fun_mk (st := s_is_pair) l2 c2 k2, PySem.W.mg_of X G a2, (fun_mk (st := s_is_pair) l2 c2 k2).binds fun _ _ _ _ _ _ us hl => match us, hl with | [_], _ => rfl,
    f3, _, fun_mk (st := s_leads_to_root) l3 c3 k3, PySem.W.mg_of X G a3, (fun_mk (st := s_leads_to_root) l3 c3 k3).binds fun _ _ _ _ _ _ us hl => match us, hl with | [_, _, _], _ => rfl,
    f4, _, fun_mk (st := s_are_exits) l4 c4 k4, PySem.W.mg_of X G a4, (fun_mk (st := s_are_exits) l4 c4 k4).binds fun _ _ _ _ _ _ us hl => match us, hl with | [_], _ => rfl,
    f5, _, fun_mk (st := s_law_bag) l5 c5 k5, PySem.W.mg_of X G a5, (fun_mk (st := s_law_bag) l5 c5 k5).binds fun _ _ _ _ _ _ us hl => match us, hl with | [_, _], _ => rfl,
    f6, _, fun_mk (st := s_law_draw) l6 c6 k6, PySem.W.mg_of X G a6, (fun_mk (st := s_law_draw) l6 c6 k6).binds fun _ _ _ _ _ _ us hl => match us, hl with | [_, _], _ => rfl,
    f7, _, fun_mk (st := s_law_cells) l7 c7 k7, PySem.W.mg_of X G a7, (fun_mk (st := s_law_cells) l7 c7 k7).binds fun _ _ _ _ _ _ us hl => match us, hl with | [_], _ => rfl,
    f8, _, fun_mk (st := s_law_names) l8 c8 k8, PySem.W.mg_of X G a8, (fun_mk (st := s_law_names) l8 c8 k8).binds fun _ _ _ _ _ _ us hl => match us, hl with | [_, _], _ => rfl,
    f9, _, fun_mk (st := s_law_row) l9 c9 k9, PySem.W.mg_of X G a9, (fun_mk (st := s_law_row) l9 c9 k9).binds fun _ _ _ _ _ _ us hl => match us, hl with | [_, _, _], _ => rfl,
    f10, _, fun_mk (st := s_law_pairs) l10 c10 k10, PySem.W.mg_of X G a10, (fun_mk (st := s_law_pairs) l10 c10 k10).binds fun _ _ _ _ _ _ us hl => match us, hl with | [_], _ => rfl,
    f11, _, fun_mk (st := s_law_is_page) l11 c11 k11, PySem.W.mg_of X G a11, (fun_mk (st := s_law_is_page) l11 c11 k11).binds fun _ _ _ _ _ _ us hl => match us, hl with | [_], _ => rfl,
    f12, _, fun_mk (st := s_law_due) l12 c12 k12, PySem.W.mg_of X G a12, (fun_mk (st := s_law_due) l12 c12 k12).binds fun _ _ _ _ _ _ us hl => match us, hl with | [_, _], _ => rfl,
    f13, _, fun_mk (st := s_law_bent) l13 c13 k13, PySem.W.mg_of X G a13, (fun_mk (st := s_law_bent) l13 c13 k13).binds fun _ _ _ _ _ _ us hl => match us, hl with | [_, _, _], _ => rfl,
    f14, _, fun_mk (st := s_law_made) l14 c14 k14, PySem.W.mg_of X G a14, (fun_mk (st := s_law_made) l14 c14 k14).binds fun _ _ _ _ _ _ us hl => match us, hl with | [_, _, _], _ => rfl,
    f15, _, fun_mk (st := s_law_right) l15 c15 k15, PySem.W.mg_of X G a15, (fun_mk (st := s_law_right) l15 c15 k15).binds fun _ _ _ _ _ _ us hl => match us, hl with | [_, _], _ => rfl,
    fa, _, fun_mk (st := s_law) l16 c16 k16, PySem.W.mg_of X G a16, (fun_mk (st := s_law) l16 c16 k16).binds fun _ _ _ _ _ _ us hl => match us, hl with | [_], _ => rfl,
    f17, _, fun_mk (st := s_Effect___init) l17 c17 k17, (fun_mk (st := s_Effect___init) l17 c17 k17).binds fun _ _ _ _ _ _ us hl => match us, hl with | [_, _, _], _ => rfl, ⟨mk0, a17, i17, kc0⟩,
    f18, _, fun_mk (st := s_Effect_first) l18 c18 k18, (fun_mk (st := s_Effect_first) l18 c18 k18).binds fun _ _ _ _ _ _ us hl => match us, hl with | [_], _ => rfl, p18, ⟨a18, g18, t18, ⟨rest18, r18⟩⟩,
    f19, _, fun_mk (st := s_Effect_exits) l19 c19 k19, (fun_mk (st := s_Effect_exits) l19 c19 k19).binds fun _ _ _ _ _ _ us hl => match us, hl with | [_], _ => rfl, p19, ⟨a19, g19, t19, ⟨rest19, r19⟩⟩,
    f20, _, fun_mk (st := s_Effect___len) l20 c20 k20, (fun_mk (st := s_Effect___len) l20 c20 k20).binds fun _ _ _ _ _ _ us hl => match us, hl with | [_], _ => rfl, a20, i20,
    BC.Fun.kb (fun_mk (st := s_Effect___init) l17 c17 k17) fun _ _ _ _ _ _ us ws h1 h2 => match us, h1, ws, h2 with | [_], _, [_, _], _ => rfl,
    tt_MOST_PAGE, PySem.W.mg_of X G q_MOST_PAGE,
    PySem.W.mg_none_of X G z_all,
    PySem.W.mg_none_of X G z_any,
    PySem.W.mg_none_of X G z_bool,
    PySem.W.mg_none_of X G z_dict,
    PySem.W.mg_none_of X G z_enumerate,
    PySem.W.mg_none_of X G z_int,
    PySem.W.mg_none_of X G z_isinstance,
    PySem.W.mg_none_of X G z_len,
    PySem.W.mg_none_of X G z_list,
    PySem.W.mg_none_of X G z_max,
    PySem.W.mg_none_of X G z_min,
    PySem.W.mg_none_of X G z_range,
    PySem.W.mg_none_of X G z_repr,
    PySem.W.mg_none_of X G z_set,
    PySem.W.mg_none_of X G z_sorted,
    PySem.W.mg_none_of X G z_str,
    PySem.W.mg_none_of X G z_tuple,
    PySem.W.mg_none_of X G z_zip⟩
  exact ⟨T.fd_law, fun s v => .of_eq rfl, fun base _ _ => ok_law T⟩

end LW
open PySem PySem.W PyProof.Rows
set_option maxHeartbeats 0 in
theorem PySem.Challenge.cw_breadcrumbs_k33_effects_judged_holds : PySem.Challenge.rw_breadcrumbs_k33_effects_judged.Holds := by
  w_on; o_law; k_head; (case hw => w_witness2)
  k_fill
  refine BC.walk_G (l := PySem.Challenge.rw_breadcrumbs_k33_effects_judged) (n := 63) (k := 9) (x := "_law_script") (sp := fun w => LW.spLaw _) rfl (by decide) rfl ⟨rfl, by decide, by decide⟩ (fun w h Y => PySem.W.kIn_of Y) ?F (fun w H a ns hl hS => ⟨a, ns, rfl, hS, hl, fun _ => rfl⟩)
  case F =>
    intro w mg fa h KX G hmg
    refine' LW.all_mk KX G hmg ?xn ?xt ?ax0 ?kx0 ?xx0 ?gx0 ?hx0 ?bx0 ?dx0 ?cx0 ?mx0 ?tx0 ?lx0 ?rx0 ?ax1 ?kx1 ?xx1 ?gx1 ?hx1 ?bx1 ?dx1 ?cx1 ?mx1 ?tx1 ?lx1 ?rx1 ?ndx ?aC0 ?pg0 ?hd0 ?po0 ?sa0 ?ka0 ?kn0 ?kt0 ?km0 ?ke0 ?kf0 ?nf0_list ?nf0_tuple ?nf0_dict ?nf0_int ?nf0_str ?nf0_bool ?nf0_NoneType ?sf0 ?ob0 ?on0 ?na0_begin_page ?na0_pairs ?na0_exit_of ?a0 ?l0 ?c0 ?k0 ?a1 ?l1 ?c1 ?k1 ?a2 ?l2 ?c2 ?k2 ?a3 ?l3 ?c3 ?k3 ?a4 ?l4 ?c4 ?k4 ?a5 ?l5 ?c5 ?k5 ?a6 ?l6 ?c6 ?k6 ?a7 ?l7 ?c7 ?k7 ?a8 ?l8 ?c8 ?k8 ?a9 ?l9 ?c9 ?k9 ?a10 ?l10 ?c10 ?k10 ?a11 ?l11 ?c11 ?k11 ?a12 ?l12 ?c12 ?k12 ?a13 ?l13 ?c13 ?k13 ?a14 ?l14 ?c14 ?k14 ?a15 ?l15 ?c15 ?k15 ?a16 ?l16 ?c16 ?k16 ?a17 ?i17 ?l17 ?c17 ?k17 ?mk0 ?kc0 ?a18 ?g18 ?t18 ?r18 ?l18 ?c18 ?k18 ?a19 ?g19 ?t19 ?r19 ?l19 ?c19 ?k19 ?a20 ?i20 ?l20 ?c20 ?k20 ?q_MOST_PAGE ?z_all ?z_any ?z_bool ?z_dict ?z_enumerate ?z_int ?z_isinstance ?z_len ?z_list ?z_max ?z_min ?z_range ?z_repr ?z_set ?z_sorted ?z_str ?z_tuple ?z_zip
    (case xn => k_is); (case xt => k_is); (case ax0 => k_is); (case kx0 => k_is); (case xx0 => k_exc); (case gx0 => k_is); (case hx0 => k_is); (case bx0 => k_is); (case dx0 => k_is); (case cx0 => k_is); (case mx0 => k_is); (case tx0 => k_is); (case lx0 => k_is); (case rx0 => rfl); (case ax1 => k_is); (case kx1 => k_is); (case xx1 => k_exc); (case gx1 => k_is); (case hx1 => k_is); (case bx1 => k_is); (case dx1 => k_is); (case cx1 => k_is); (case mx1 => k_is); (case tx1 => k_is); (case lx1 => k_is); (case rx1 => rfl); (case ndx => decide); (case aC0 => k_is); (case pg0 => k_is); (case hd0 => k_is); (case po0 => k_is); (case sa0 => k_is); (case ka0 => k_is); (case kn0 => k_is); (case kt0 => k_is); (case km0 => k_is); (case ke0 => k_is); (case kf0 => k_is); (case nf0_list => k_is); (case nf0_tuple => k_is); (case nf0_dict => k_is); (case nf0_int => k_is); (case nf0_str => k_is); (case nf0_bool => k_is); (case nf0_NoneType => k_is); (case sf0 => k_is); (case ob0 => k_is); (case on0 => k_is); (case na0_begin_page => k_is); (case na0_pairs => k_is); (case na0_exit_of => k_is); (case a0 => k_is); (case l0 => k_is); (case c0 => k_is); (case k0 => k_is); (case a1 => k_is); (case l1 => k_is); (case c1 => k_is); (case k1 => k_is); (case a2 => k_is); (case l2 => k_is); (case c2 => k_is); (case k2 => k_is); (case a3 => k_is); (case l3 => k_is); (case c3 => k_is); (case k3 => k_is); (case a4 => k_is); (case l4 => k_is); (case c4 => k_is); (case k4 => k_is); (case a5 => k_is); (case l5 => k_is); (case c5 => k_is); (case k5 => k_is); (case a6 => k_is); (case l6 => k_is); (case c6 => k_is); (case k6 => k_is); (case a7 => k_is); (case l7 => k_is); (case c7 => k_is); (case k7 => k_is); (case a8 => k_is); (case l8 => k_is); (case c8 => k_is); (case k8 => k_is); (case a9 => k_is); (case l9 => k_is); (case c9 => k_is); (case k9 => k_is); (case a10 => k_is); (case l10 => k_is); (case c10 => k_is); (case k10 => k_is); (case a11 => k_is); (case l11 => k_is); (case c11 => k_is); (case k11 => k_is); (case a12 => k_is); (case l12 => k_is); (case c12 => k_is); (case k12 => k_is); (case a13 => k_is); (case l13 => k_is); (case c13 => k_is); (case k13 => k_is); (case a14 => k_is); (case l14 => k_is); (case c14 => k_is); (case k14 => k_is); (case a15 => k_is); (case l15 => k_is); (case c15 => k_is); (case k15 => k_is); (case a16 => k_is); (case l16 => k_is); (case c16 => k_is); (case k16 => k_is); (case a17 => k_is); (case i17 => k_is); (case l17 => k_is); (case c17 => k_is); (case k17 => k_is); (case mk0 => k_is); (case kc0 => k_is); (case a18 => k_is); (case g18 => k_is); (case t18 => k_is); (case r18 => k_is); (case l18 => k_is); (case c18 => k_is); (case k18 => k_is); (case a19 => k_is); (case g19 => k_is); (case t19 => k_is); (case r19 => k_is); (case l19 => k_is); (case c19 => k_is); (case k19 => k_is); (case a20 => k_is); (case i20 => k_is); (case l20 => k_is); (case c20 => k_is); (case k20 => k_is); (case q_MOST_PAGE => k_is); (case z_all => k_is); (case z_any => k_is); (case z_bool => k_is); (case z_dict => k_is); (case z_enumerate => k_is); (case z_int => k_is); (case z_isinstance => k_is); (case z_len => k_is); (case z_list => k_is); (case z_max => k_is); (case z_min => k_is); (case z_range => k_is); (case z_repr => k_is); (case z_set => k_is); (case z_sorted => k_is); (case z_str => k_is); (case z_tuple => k_is); (case z_zip => k_is)

