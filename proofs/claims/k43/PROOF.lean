import PyProof.Rows.All
import Wide.All
import OpenK.AllK
import Wide.FinOn
import HandS.ForMost
import HandS.IsInst
import HandS.Style
import HandS.Wide
import HandS.Evl
import HandS.Zip
import HandS.SortKw
import HandS.Conv
import HandS.TupLe
import HandS.RaiseMore
import HandS.Defaults
import HandS.SetFor
import HandS.Strs
import HandS.Property
import HandS.DictComp
import HandS.ListItems
import HandS.DictTup
import HandS.SortRule
import KE.KCallOwn
import PyProof.InstEq
import HandS.More
import HandS.ExcIs
import HandS.ExcValue
import HandS.TryOnly
import HandS.HotCalls
import HandS.WordsExc
import HandS.ExcOwn
import HandS.CallSlots
import HandS.Dict
import HandS.GenList
import PySem.Challenge.RW_breadcrumbs_k43_whole_effects_trails_and
set_option Elab.async false
set_option linter.all false
set_option maxRecDepth 100000
set_option maxHeartbeats 4000000
namespace BC
open PySem PySem.Spec PyProof.Rows L2
section
variable {X : Cx}
/-- a power of a number of any size that matters here -/
def CPowX (i j : Int) : Prop := 0 ≤ j ∧ j ≤ 1000 ∧ i.natAbs.log2 < 100000
theorem op_powX : OpR X (binaryOp .Pow) (rI CPowX fun i j => .int (i ^ j.toNat)) := opI fun i j _ _ _ _ _ hc q => by
  obtain ⟨h0, h1, h2⟩ := hc
  refine pow_int h0 ?_ q
  have hb : Builtin.Int.intBits i ≤ 100000 := by
    unfold Builtin.Int.intBits
    split <;> omega
  have h3 : (Builtin.Int.intBits i : Int) * j ≤ 100000 * j := Int.mul_le_mul_of_nonneg_right (by omega) h0
  omega
/-- a product: one factor small, or both of bounded size -/
def CMulX (i j : Int) : Prop := CMul i j ∨ CMulW i j
theorem op_mulX : OpR X (binaryOp .Mult) (rI CMulX fun i j => .int (i * j)) := opI fun _ _ _ _ _ _ _ hc q => by
  rcases hc with hc | hc
  · exact mul_int q hc.ok
  · exact mul_int q hc.ok
theorem op_fdivX : OpR X (binaryOp .FloorDiv) (rI CDivW fun i j => .int (i / j)) := op_fdivW
theorem op_modX : OpR X (binaryOp .Mod) (rI (fun _ j => 0 < j) fun i j => .int (i % j)) := opI fun i j _ _ _ _ _ hc q => by
  refine mod_int' (show j ≠ 0 by omega) ?_
  rw [Int.fmod_eq_emod_of_nonneg i (by omega)]
  exact q
def ipC (C : Int → Int → Prop) (f : Int → Int → Int) : TIp := fun x y H Q => ∃ i j, x = .int i ∧ y = .int j ∧ C i j ∧ Q (.int (f i j)) H
theorem ip_mulX : PIp X .Mult (ipC CMulX fun i j => i * j) := by
  intro pins s σ H x y v u Q I r1 r2 h
  obtain ⟨i, j, rfl, rfl, hc, q⟩ := h
  obtain ⟨t, rfl⟩ := r1
  obtain ⟨t', rfl⟩ := r2
  have ok : IntMulOk i j := by
    rcases hc with hc | hc
    · exact hc.ok
    · exact hc.ok
  exact imul_int ⟨.int (i * j), H, I.tok _, ⟨_, rfl⟩, q⟩ ok
end
end BC

/-! ### readings opened one construct at a time: full applications alone, so that what stands in a loop is left closed -/
namespace BC
open PySem PySem.Spec PyProof.Rows L2
section
variable {K : PySem.W.Frag} {σ : L2.St} {H : Hp} {Q : VK} {QT : Bool → Hp → Prop} {QA : List V → Hp → Prop} {D : Ends} {ta tb tc : TE} {t u : TT} {a : TA} {r r' : R2} {i j : Nat} {v x y : V} {s1 s2 : TS} {g : TG} {QG : L2.St → Hp → Prop}
def LoopG (J : It) (g : TG) (tb : TS) : TS := fun D σ H => ∃ W : Nat → Nat → L2.St → Hp → Prop, (∃ m, W 0 m σ H) ∧ ∀ i m σ H, W i m σ H →
  (J.stop i H ∧ D.nx σ H) ∨ (J.go i H ∧ ∃ N : L2.St → Hp → Prop, (∀ σ' H', N σ' H' → ∃ m', m' < m ∧ W (i + 1) m' σ' H') ∧ ∀ x H', J.yld i H x H' → g x σ H' fun σ2 H2 => tb { D with nx := N, ct := N, bk := D.nx } σ2 H2)
def LcG (J : It) (g : TG) (tt : TT) (te : TE) (vs : List Nat) (σ : L2.St) (Dl : Addr) (H1 : Hp) (Q : VK) : Prop := ∃ W : Nat → Nat → Hp → Prop, (∃ m, W 0 m (upd H1 Dl (.lst []))) ∧ ∀ i m H, W i m H →
  (J.stop i H ∧ Q (.ref Dl) H) ∨ (J.go i H ∧ ∃ Nx : Hp → Prop, (∀ H', Nx H' → ∃ m', m' < m ∧ W (i + 1) m' H') ∧ ∀ x H', J.yld i H x H' → g x (wipe σ vs) H' fun σ2 H2 => wipe σ2 vs = wipe σ vs ∧ tt σ2 H2 fun b H3 =>
    if b = true then te σ2 H3 fun y H4 => ∃ acc, H4 Dl = some (.lst acc) ∧ acc.length < sizeLine ∧ Nx (upd H4 Dl (.lst (acc ++ [y]))) else Nx H3)
theorem x_seq : tSeq s1 s2 D σ H = s1 { D with nx := s2 D } σ H := rfl
theorem x_next : tNext D σ H = D.nx σ H := rfl
theorem x_brk : tBreak D σ H = D.bk σ H := rfl
theorem x_cnt : tCont D σ H = D.ct σ H := rfl
theorem x_nev : tNever D σ H = False := rfl
theorem x_ret : tRet ta D σ H = ta σ H D.rt := rfl
theorem x_retN : tRetN D σ H = D.rt .non H := rfl
theorem x_drop : tDrop ta D σ H = ta σ H (fun _ H1 => D.nx σ H1) := rfl
theorem x_ifS : tIfS t s1 s2 D σ H = t σ H (fun b H1 => if b = true then s1 D σ H1 else s2 D σ H1) := rfl
theorem x_asg : tAsg ta g D σ H = ta σ H (fun x H1 => g x σ H1 D.nx) := rfl
theorem x_gn : gName i v σ H QG = QG (σ.set i (some v)) H := rfl
theorem x_gsub {o ix : TE} {st : TSet} : gSub o ix st v σ H QG = o σ H (fun o H1 => ix σ H1 fun i H2 => st o i v H2 fun H3 => QG σ H3) := rfl
theorem x_par : tPar i j a D σ H = a σ H (fun vs H1 => ∃ v w, vs = [v, w] ∧ D.nx ((σ.set i (some v)).set j (some w)) H1) := rfl
theorem x_par3 {l : Nat} : tPar3 i j l a D σ H = a σ H (fun vs H1 => ∃ u v w, vs = [u, v, w] ∧ D.nx (((σ.set i (some u)).set j (some v)).set l (some w)) H1) := rfl
theorem x_aug {ti : TIp} : tAug i ta ti D σ H = ∃ x, σ[i]? = some (some x) ∧ ta σ H fun y H1 => ti x y H1 fun z H2 => D.nx (σ.set i (some z)) H2 := rfl
theorem x_for {wi : TI} : tFor wi g s1 D σ H = wi σ H (fun J H1 => LoopG J g s1 D σ H1) := rfl
theorem x_lc {wi : TI} {vs : List Nat} : tLc wi g t ta vs σ H Q = wi σ H (fun J H1 => ∀ Dl, H1 Dl = none → LcG J g t ta vs σ Dl H1 Q) := rfl
theorem x_rng1 {R : It → Hp → Prop} : iRng1 a σ H R = a σ H (fun vs H1 => ∃ j : Int, vs = [.int j] ∧ -(2 ^ 62) ≤ j ∧ j < 2 ^ 62 ∧ R (Itr 0 j.toNat) H1) := rfl
theorem x_rng2 {R : It → Hp → Prop} : iRng2 a σ H R = a σ H (fun vs H1 => ∃ i j : Int, vs = [.int i, .int j] ∧ (-(2 ^ 62) ≤ i ∧ i < 2 ^ 62 ∧ -(2 ^ 62) ≤ j ∧ j < 2 ^ 62) ∧ R (Itr i (j - i).toNat) H1) := rfl
theorem x_rng3 {R : It → Hp → Prop} : iRng3 a σ H R = a σ H (fun vs H1 => ∃ (i j c : Int) (n : Nat), vs = [.int i, .int j, .int c] ∧ RgC i j c n ∧ R (Itc i c n) H1) := rfl
theorem x_ilist {R : It → Hp → Prop} : iList K ta σ H R = ta σ H (fun x H1 => ∃ a, x = .ref a ∧ (∃ xs, SqL K H1 a xs) ∧ R (Itl K a) H1) := rfl
theorem x_itup {R : It → Hp → Prop} : iTup K ta σ H R = ta σ H (fun x H1 => ∃ a, x = .ref a ∧ (∃ xs, SqT K H1 a xs) ∧ R (Itt K a) H1) := rfl
theorem x_ienum {R : It → Hp → Prop} : iEnum K a σ H R = a σ H (fun vs H1 => ∃ a xs, vs = [.ref a] ∧ SqL K H1 a xs ∧ R (Ite K a) H1) := rfl
theorem x_izip {R : It → Hp → Prop} : iZip K a σ H R = a σ H (fun vs H1 => ∃ a b xs ys, vs = [.ref a, .ref b] ∧ SqL K H1 a xs ∧ SqL K H1 b ys ∧ R (Itz K a b) H1) := rfl
theorem x_istr {R : It → Hp → Prop} : iStr ta σ H R = ta σ H (fun v H1 => ∃ x, v = .str x ∧ R (Its x) H1) := rfl
theorem x_var : tVar i σ H Q = ∃ v, σ[i]? = some (some v) ∧ Q v H := rfl
theorem x_c : tC v σ H Q = Q v H := rfl
theorem x_op : tOp r ta tb σ H Q = ta σ H (fun x H1 => tb σ H1 fun y H2 => r x y H2 Q) := rfl
theorem x_un {ru : V → Hp → VK → Prop} : tUn ru ta σ H Q = ta σ H (fun x H1 => ru x H1 Q) := rfl
theorem x_test : tTest ta σ H QT = ta σ H (fun x H' => ∃ k, x = .bl k ∧ QT k H') := rfl
theorem x_b : tB ta σ H QT = ta σ H (fun x H' => ∃ k, x = .bl k ∧ QT k H') := rfl
theorem x_chain : tChain r r' ta tb tc σ H Q = ta σ H (fun x H1 => tb σ H1 fun y H2 => r x y H2 fun z H3 => ∃ k, z = .bl k ∧ (if k = true then tc σ H3 fun w' H4 => r' y w' H4 Q else Q (.bl false) H3)) := rfl
theorem x_and : tAnd t u σ H QT = t σ H (fun c H1 => if c = true then u σ H1 QT else QT false H1) := rfl
theorem x_or : tOr t u σ H QT = t σ H (fun c H1 => if c = true then QT true H1 else u σ H1 QT) := rfl
theorem x_not : tNot t σ H QT = t σ H (fun c H1 => QT (!c) H1) := rfl
theorem x_andV : tAndV ta tb σ H Q = ta σ H (fun x H1 => ∃ c, x = .bl c ∧ if c = true then tb σ H1 Q else Q (.bl false) H1) := rfl
theorem x_orV : tOrV ta tb σ H Q = ta σ H (fun x H1 => ∃ c, x = .bl c ∧ if c = true then Q (.bl true) H1 else tb σ H1 Q) := rfl
theorem x_notV : tNotV ta σ H Q = ta σ H (fun x H1 => ∃ c, x = .bl c ∧ Q (.bl (!c)) H1) := rfl
theorem x_ife : tIf t ta tb σ H Q = t σ H (fun c H1 => if c = true then ta σ H1 Q else tb σ H1 Q) := rfl
theorem x_nil : tNil σ H QA = QA [] H := rfl
theorem x_cons {rest : TA} : tCons ta rest σ H QA = ta σ H (fun x H1 => rest σ H1 fun xs H2 => QA (x :: xs) H2) := rfl
theorem x_lst : tLst a σ H Q = a σ H (fun xs H1 => xs.length ≤ sizeLine ∧ ∀ p, H1 p = none → Q (.ref p) (upd H1 p (.lst xs))) := rfl
theorem x_tup : tTup a σ H Q = a σ H (fun xs H1 => xs.length ≤ sizeLine ∧ ∀ p, H1 p = none → Q (.ref p) (upd H1 p (.tup xs))) := rfl
theorem x_cb {rc : List V → Hp → VK → Prop} : tCB rc a σ H Q = a σ H (fun vs H1 => rc vs H1 Q) := rfl
theorem x_call {sp : Sp} {dvs : List V} {E : XK} : tCall sp dvs E a σ H Q = a σ H (fun vs H1 => sp (vs ++ dvs) H1 Q E) := rfl
theorem x_callK {sp : Sp} {gV : List V → List V → List V} {E : XK} {b : TA} : tCallK sp gV E a b σ H Q = a σ H (fun vs H1 => b σ H1 fun zs H2 => sp (gV vs zs) H2 Q E) := rfl
theorem x_bm {T : String} {rm : V → List V → Hp → VK → Prop} : tBM K T rm ta a σ H Q = ta σ H (fun x H1 => tyV K T x H1 ∧ a σ H1 fun xs H2 => rm x xs H2 Q) := rfl
theorem x_bm0 {T : String} {rm : V → List V → Hp → VK → Prop} : tBM0 K T rm ta σ H Q = ta σ H (fun x H1 => tyV K T x H1 ∧ rm x [] H1 Q) := rfl
theorem x_sl {rs : V → Option Int → Option Int → Hp → VK → Prop} {tl th : TO} : tSl rs ta tl th σ H Q = ta σ H (fun x H1 => tl σ H1 fun l H2 => th σ H2 fun u H3 => rs x l u H3 Q) := rfl
theorem x_nopart {QO : Option Int → Hp → Prop} : tNoPart σ H QO = QO none H := rfl
theorem x_part {QO : Option Int → Hp → Prop} : tPart ta σ H QO = ta σ H (fun x H1 => ∃ i, x = .int i ∧ QO (some i) H1) := rfl
theorem x_revL : tRevL K ta σ H Q = ta σ H (fun x H1 => ∃ a xs, x = .ref a ∧ SqL K H1 a xs ∧ ∀ p, H1 p = none → Q (.ref p) (upd H1 p (.lst xs.reverse))) := rfl
theorem x_I0 {f : Int → Int → V} {m n : Int} : rI0 f (.int m) (.int n) H Q ↔ Q (f m n) H := ⟨fun ⟨i, j, e1, e2, q⟩ => by cases e1; cases e2; exact q, fun q => ⟨m, n, rfl, rfl, q⟩⟩
theorem x_I {C : Int → Int → Prop} {f : Int → Int → V} {m n : Int} : rI C f (.int m) (.int n) H Q ↔ C m n ∧ Q (f m n) H := ⟨fun ⟨i, j, e1, e2, q⟩ => by cases e1; cases e2; exact q, fun q => ⟨m, n, rfl, rfl, q⟩⟩
theorem x_U {f : Int → V} {m : Int} : rU f (.int m) H Q ↔ Q (f m) H := ⟨fun ⟨i, e1, q⟩ => by cases e1; exact q, fun q => ⟨m, rfl, q⟩⟩
theorem x_ip {f : Int → Int → Int} {m n : Int} : ipI f (.int m) (.int n) H Q ↔ Q (.int (f m n)) H := ⟨fun ⟨i, j, e1, e2, q⟩ => by cases e1; cases e2; exact q, fun q => ⟨m, n, rfl, rfl, q⟩⟩
theorem x_ipC {C : Int → Int → Prop} {f : Int → Int → Int} {m n : Int} : ipC C f (.int m) (.int n) H Q ↔ C m n ∧ Q (.int (f m n)) H := ⟨fun ⟨i, j, e1, e2, q⟩ => by cases e1; cases e2; exact q, fun q => ⟨m, n, rfl, rfl, q⟩⟩
theorem x_eqI {m n : Int} : rEq (.int m) (.int n) H Q ↔ Q (.bl (decide (m = n))) H := by
  unfold rEq
  rw [show scal (V.int m) (V.int n) = true from rfl]
  by_cases e : m = n
  · subst e; simp
  · simp [e]
theorem x_neI {m n : Int} : rNe (.int m) (.int n) H Q ↔ Q (.bl (!decide (m = n))) H := by
  unfold rNe
  rw [show scal (V.int m) (V.int n) = true from rfl]
  by_cases e : m = n
  · subst e; simp
  · simp [e]
end
/-! ### the rules that speak of the written part, by its own name -/
section
variable {X : Cx} {K : PySem.W.Frag}
theorem k_pi_list {tg l : Expr} {tl : TE} (hK : X.K = K) (hl : PE X l tl) : PI X tg l (iList K tl) := by subst hK; exact pi_list hl
theorem k_pi_tup {tg l : Expr} {tl : TE} (hK : X.K = K) (hl : PE X l tl) : PI X tg l (iTup K tl) := by subst hK; exact pi_tup hl
theorem k_pi_enum {e : Expr} {ta : TA} {p pos tpos : Pos} {elts : List Expr} {kk : Nat} (hK : X.K = K) (hg : Gl X "enumerate") (hm : X.mg "enumerate" = none) (ha : PA X [e] ta) (hs : starEach [e] X.env = [(false, eval e X.env)] := by rfl) : PI X (.Tuple elts kk tpos) (.Call (.Name "enumerate" p) [e] [] pos) (iEnum K ta) := by subst hK; exact pi_enum hg hm ha hs
theorem k_pi_zip {e e2 : Expr} {ta : TA} {p pos tpos : Pos} {elts : List Expr} {kk : Nat} (hK : X.K = K) (hg : Gl X "zip") (hm : X.mg "zip" = none) (ha : PA X [e, e2] ta)
    (hs : starEach [e, e2] X.env = (false, eval e X.env) :: starEach [e2] X.env := by rfl) (hpl : (backTo pos (starEach [e2] X.env)).any (·.1) = false := by rfl) : PI X (.Tuple elts kk tpos) (.Call (.Name "zip" p) [e, e2] [] pos) (iZip K ta) := by subst hK; exact pi_zip hg hm ha hs hpl
theorem k_ix_list (hK : X.K = K) : IxR X (rIxL K) := by subst hK; exact ix_list
theorem k_ix_tup (hK : X.K = K) : IxR X (rIxT K) := by subst hK; exact ix_tup
theorem k_sl_list (hK : X.K = K) : SlR X (rSlL K) := by subst hK; exact sl_list
theorem k_in (hK : X.K = K) : OpR X (compareOp .In) (rIn K false) := by subst hK; exact op_in_seq
theorem k_notIn (hK : X.K = K) : OpR X (compareOp .NotIn) (rIn K true) := by subst hK; exact op_notIn_seq
theorem k_eqD (hK : X.K = K) (hu : X.A.units + 64 < cLine) : OpR X (compareOp .Eq) (rEqD K) := by subst hK; exact op_eqD hu
theorem k_neD (hK : X.K = K) (hu : X.A.units + 64 < cLine) : OpR X (compareOp .NotEq) (rNeD K) := by subst hK; exact op_neD hu
def rLen (K : PySem.W.Frag) : List V → Hp → VK → Prop := fun xs H Q => ∃ p ys, xs = [.ref p] ∧ (SqL K H p ys ∨ SqT K H p ys) ∧ Q (.int ys.length) H
def rListOf (K : PySem.W.Frag) : List V → Hp → VK → Prop := fun xs H Q => ∃ p ys, xs = [.ref p] ∧ (SqL K H p ys ∨ SqT K H p ys) ∧ ∀ l, H l = none → Q (.ref l) (upd H l (.lst ys))
def rTupOf (K : PySem.W.Frag) : List V → Hp → VK → Prop := fun xs H Q => ∃ p ys, xs = [.ref p] ∧ ((SqL K H p ys ∧ ∀ l, H l = none → Q (.ref l) (upd H l (.tup ys))) ∨ (SqT K H p ys ∧ Q (.ref p) H))
theorem k_len (hK : X.K = K) : CallR X (.builtin "len") (rLen K) := by subst hK; exact call_len_seq
theorem k_listOf (hK : X.K = K) : CallR X (.type "list") (rListOf K) := by subst hK; exact call_list_of
theorem k_tupOf (hK : X.K = K) : CallR X (.type "tuple") (rTupOf K) := by subst hK; exact call_tuple_of
theorem k_isi (hK : X.K = K) : CallR X (.builtin "isinstance") (rIsi K) := by subst hK; exact call_isi
theorem k_sum (hK : X.K = K) (hc : X.calm = true) : CallR X (.builtin "sum") (rSum K) := by subst hK; exact cr_sum hc
theorem k_all (hK : X.K = K) (hc : X.calm = true) : CallR X (.builtin "all") (rAll K) := by subst hK; exact cr_all hc
theorem k_any (hK : X.K = K) (hc : X.calm = true) : CallR X (.builtin "any") (rAny K) := by subst hK; exact cr_any hc
theorem k_sorted (hK : X.K = K) : CallR X (.builtin "sorted") (rSorted K) := by subst hK; exact cr_sorted
def tTruK (K : PySem.W.Frag) (ta : TE) : TT := fun σ H Q => ta σ H fun x H' => ∃ k, TruV K x H' k ∧ Q k H'
theorem k_truth {a : Expr} {ta : TE} (hK : X.K = K) (ha : PE X a ta) (he : ∀ whole, isTrue a X.env whole = (do let v ← whole; standAt a.pos; holding [v] (truthy v))) : PT X a (tTruK K ta) := by subst hK; exact pt_truth ha he
theorem k_tup {es : List Expr} {k n : Nat} {pos : Pos} {t : TGs} (hK : X.K = K) (hc : X.calm = true) (h : PGs X es t)
    (hn : (assignEach es X.env).length = n := by rfl) (hst : (assignEach es X.env).findIdx? (·.1) = none := by rfl) : PG X (.Tuple es k pos) (gTup K n t) := by subst hK; exact pg_tup hc h hn hst
theorem k_bm0 {T : String} {to : TE} {r : V → List V → Hp → VK → Prop} {e : Expr} (hK : X.K = K) (h : PE X e (tBM0 X.K T r to)) : PE X e (tBM0 K T r to) := by subst hK; exact h
theorem k_bm {T : String} {to : TE} {ta : TA} {r : V → List V → Hp → VK → Prop} {e : Expr} (hK : X.K = K) (h : PE X e (tBM X.K T r to ta)) : PE X e (tBM K T r to ta) := by subst hK; exact h
theorem k_rev {e : Expr} {te : TE} {k : Nat} {p1 p2 p3 pos : Pos} (hK : X.K = K) (he : PE X e te) : PE X (.Subscript e (.Slice none none (some (.UnaryOp .USub (.Constant (.int 1) k p1) p2)) p3) pos) (tRevL K te) := by subst hK; exact pe_revL he
theorem k_index (hK : X.K = K) : MtR X "list.index" (rIndex K) := by subst hK; exact mt_index
end
section
variable {K : PySem.W.Frag} {σ : L2.St} {H : Hp} {ta : TE} {QT : Bool → Hp → Prop}
theorem x_tru : tTruK K ta σ H QT = ta σ H (fun x H' => ∃ k, TruV K x H' k ∧ QT k H') := rfl
end
/-! ### loops -/
section
variable {K : PySem.W.Frag} {σ : L2.St} {H : Hp} {D : Ends} {g : TG} {tb : TS}
theorem lg_rng {lo : Int} {n : Nat} (Pv : Nat → L2.St → Hp → Prop) (h0 : Pv 0 σ H)
    (hs : ∀ i σ H, i < n → Pv i σ H → g (.int (lo + i)) σ H fun σ2 H2 => tb { D with nx := Pv (i + 1), ct := Pv (i + 1), bk := D.nx } σ2 H2) (hd : ∀ σ H, Pv n σ H → D.nx σ H) : LoopG (Itr lo n) g tb D σ H := for_range Pv h0 hs hd
theorem lg_rngC {lo c : Int} {n : Nat} (Pv : Nat → L2.St → Hp → Prop) (h0 : Pv 0 σ H)
    (hs : ∀ i σ H, i < n → Pv i σ H → g (.int (lo + (i : Nat) * c)) σ H fun σ2 H2 => tb { D with nx := Pv (i + 1), ct := Pv (i + 1), bk := D.nx } σ2 H2) (hd : ∀ σ H, Pv n σ H → D.nx σ H) : LoopG (Itc lo c n) g tb D σ H := for_rangeC Pv h0 hs hd
theorem lg_list {a : Addr} {xs : List V} (Pv : Nat → L2.St → Hp → Prop) (h0 : Pv 0 σ H) (hl : ∀ i σ H, i ≤ xs.length → Pv i σ H → SqL K H a xs)
    (hs : ∀ i x σ H, xs[i]? = some x → Pv i σ H → g x σ H fun σ2 H2 => tb { D with nx := Pv (i + 1), ct := Pv (i + 1), bk := D.nx } σ2 H2) (hd : ∀ σ H, Pv xs.length σ H → D.nx σ H) : LoopG (Itl K a) g tb D σ H := for_list Pv h0 hl hs hd
/-- enumerate over a list that stands still: each pair is a new tuple -/
theorem lg_enum {a : Addr} {xs : List V} (Pv : Nat → L2.St → Hp → Prop) (h0 : Pv 0 σ H) (hl : ∀ i σ H, i ≤ xs.length → Pv i σ H → SqL K H a xs)
    (hs : ∀ i x σ H T, xs[i]? = some x → Pv i σ H → H T = none → g (.ref T) σ (upd H T (.tup [.int (i : Nat), x])) fun σ2 H2 => tb { D with nx := Pv (i + 1), ct := Pv (i + 1), bk := D.nx } σ2 H2) (hd : ∀ σ H, Pv xs.length σ H → D.nx σ H) : LoopG (Ite K a) g tb D σ H := by
  refine ⟨fun i m σ H => m = xs.length - i ∧ i ≤ xs.length ∧ Pv i σ H, ⟨xs.length, by simp, Nat.zero_le _, h0⟩, ?_⟩
  rintro i m σ H ⟨rfl, hi, p⟩
  have q := hl i σ H hi p
  by_cases hlt : i < xs.length
  · refine .inr ⟨⟨xs, xs[i], q, by simp [hlt]⟩, Pv (i + 1), fun σ' H' p' => ⟨xs.length - (i + 1), by omega, rfl, hlt, p'⟩, fun x H' y => ?_⟩
    obtain ⟨T, x', rfl, hT, rfl, f⟩ := y
    exact hs i x' σ H T (f xs q) p hT
  · have e : i = xs.length := by omega
    subst e
    exact .inl ⟨⟨xs, q, Nat.le_refl _⟩, hd σ H p⟩
/-- a pair unpacked -/
theorem g_two {i j : Nat} {T : Addr} {x y : V} {QG : L2.St → Hp → Prop} (h : H T = some (.tup [x, y])) (q : QG ((σ.set i (some x)).set j (some y)) H) : gTup K 2 (gCons (gName i) (gCons (gName j) gNil)) (.ref T) σ H QG :=
  ⟨T, [x, y], rfl, .inl (.inl h), rfl, x, [y], rfl, y, [], rfl, rfl, q⟩
end
/-! ### comprehensions over lists whose elements are given by a function of the turn -/
section
variable {K : PySem.W.Frag} {σ : L2.St} {H1 : Hp} {g : TG} {tt : TT} {te : TE} {vs : List Nat} {Dl : Addr} {Q : VK}
theorem lc_g (n : Nat) {J : It} (Pv : Nat → Hp → Prop) (h0 : Pv 0 (upd H1 Dl (.lst []))) (hst : ∀ H, Pv n H → J.stop n H) (hgo : ∀ i H, i < n → Pv i H → J.go i H)
    (hs : ∀ i H x H', i < n → Pv i H → J.yld i H x H' → g x (wipe σ vs) H' fun σ2 H2 => wipe σ2 vs = wipe σ vs ∧ tt σ2 H2 fun b H3 =>
      if b = true then te σ2 H3 fun y H4 => ∃ acc, H4 Dl = some (.lst acc) ∧ acc.length < sizeLine ∧ Pv (i + 1) (upd H4 Dl (.lst (acc ++ [y]))) else Pv (i + 1) H3) (hd : ∀ H, Pv n H → Q (.ref Dl) H) : LcG J g tt te vs σ Dl H1 Q := by
  refine ⟨fun i m H => m = n - i ∧ i ≤ n ∧ Pv i H, ⟨n, by simp, Nat.zero_le _, h0⟩, ?_⟩
  rintro i m H ⟨rfl, hi, p⟩
  by_cases hlt : i < n
  · exact .inr ⟨hgo i H hlt p, Pv (i + 1), fun H' p' => ⟨n - (i + 1), by omega, rfl, hlt, p'⟩, fun x H' y => hs i H x H' hlt p y⟩
  · have e : i = n := by omega
    subst e
    exact .inl ⟨hst H p, hd H p⟩
end
/-! ### comprehensions that change nothing -/
section
variable {K : PySem.W.Frag} {σ : L2.St} {H1 : Hp} {g : TG} {tt : TT} {te : TE} {vs : List Nat} {Dl : Addr} {Q : VK}
def kept (n : Nat) (keep : Nat → Bool) (f : Nat → V) : List V := ((List.range n).filter keep).map f
theorem kept_yes {n : Nat} {k : Nat → Bool} {f : Nat → V} (h : k n = true) : kept (n + 1) k f = kept n k f ++ [f n] := by
  unfold kept
  rw [List.range_succ, List.filter_append, List.map_append]
  simp [h]
theorem kept_no {n : Nat} {k : Nat → Bool} {f : Nat → V} (h : k n = false) : kept (n + 1) k f = kept n k f := by
  unfold kept
  rw [List.range_succ, List.filter_append, List.map_append]
  simp [h]
theorem kept_len (n : Nat) (k : Nat → Bool) (f : Nat → V) : (kept n k f).length ≤ n := by
  unfold kept
  rw [List.length_map]
  exact Nat.le_trans (List.length_filter_le _ _) (by rw [List.length_range]; exact Nat.le_refl _)
theorem kept_all (n : Nat) (f : Nat → V) : kept n (fun _ => true) f = (List.range n).map f := by
  unfold kept
  rw [List.filter_eq_self.mpr (by simp)]
theorem lc_pure {J : It} (n : Nat) (item : Nat → L2.St) (keep : Nat → Bool) (f : Nat → V) (hD : H1 Dl = none) (hn : n ≤ 100000)
    (hst : ∀ H', Evl.Ex H1 H' → J.stop n H') (hgo : ∀ i H', i < n → Evl.Ex H1 H' → J.go i H')
    (hy : ∀ i H' x H'' (QG : L2.St → Hp → Prop), i < n → Evl.Ex H1 H' → J.yld i H' x H'' → (Evl.Ex H' H'' → QG (item i) H'') → g x (wipe σ vs) H'' QG)
    (hw : ∀ i, i < n → wipe (item i) vs = wipe σ vs) (ht : ∀ i, i < n → Evl.EvT tt (item i) H1 (keep i)) (he : ∀ i, i < n → keep i = true → Evl.Ev te (item i) H1 (f i))
    (hd : ∀ H', Evl.Ex H1 H' → H' Dl = some (.lst (kept n keep f)) → Q (.ref Dl) H') : LcG J g tt te vs σ Dl H1 Q := by
  refine lc_g n (fun i H' => Evl.Ex H1 H' ∧ H' Dl = some (.lst (kept i keep f))) ⟨Evl.Ex.new hD, upd_same⟩ (fun H' h => hst H' h.1) (fun i H' hi h => hgo i H' hi h.1) (fun i H' x H'' hi h y => ?_) (fun H' h => hd H' h.1 h.2)
  obtain ⟨e, hl⟩ := h
  refine hy i H' x H'' _ hi e y fun e2 => ⟨hw i hi, ht i hi H'' (e.trans e2) _ fun H3 e3 => ?_⟩
  have hl3 := e3 _ _ (e2 _ _ hl)
  cases hk : keep i with
  | false =>
    show (if false = true then _ else _)
    rw [if_neg Bool.false_ne_true, kept_no hk]
    exact ⟨(e.trans e2).trans e3, hl3⟩
  | true =>
    show (if true = true then _ else _)
    rw [if_pos rfl]
    refine he i hi hk H3 ((e.trans e2).trans e3) _ fun H4 e4 => ⟨_, e4 _ _ hl3, Nat.lt_of_lt_of_le (Nat.lt_of_le_of_lt (kept_len i keep f) hi) (Nat.le_trans hn (by decide)), ?_⟩
    rw [kept_yes hk]
    exact ⟨(((e.trans e2).trans e3).trans e4).mut hD, upd_same⟩
theorem tyes {σ : L2.St} {H : Hp} : Evl.EvT tYes σ H true := fun H1 _ _ q => q H1 (Evl.Ex.refl H1)
theorem lc_enum {a : Addr} {xs : List V} {j k : Nat} (keep : Nat → Bool) (f : Nat → V) (hx : SqL K H1 a xs) (hD : H1 Dl = none) (hn : xs.length ≤ 100000)
    (hw : ∀ u v : V, wipe (((wipe σ vs).set j (some u)).set k (some v)) vs = wipe σ vs)
    (ht : ∀ i x, xs[i]? = some x → Evl.EvT tt (((wipe σ vs).set j (some (.int (i : Nat)))).set k (some x)) H1 (keep i))
    (he : ∀ i x, xs[i]? = some x → keep i = true → Evl.Ev te (((wipe σ vs).set j (some (.int (i : Nat)))).set k (some x)) H1 (f i))
    (hd : ∀ H', Evl.Ex H1 H' → H' Dl = some (.lst (kept xs.length keep f)) → Q (.ref Dl) H') : LcG (Ite K a) (gTup K 2 (gCons (gName j) (gCons (gName k) gNil))) tt te vs σ Dl H1 Q := by
  refine lc_pure xs.length (fun i => ((wipe σ vs).set j (some (.int (i : Nat)))).set k (some (xs.getD i .non))) keep f hD hn (fun H' e => ⟨xs, Evl.ex_l e hx, Nat.le_refl _⟩) (fun i H' hi e => ⟨xs, xs[i], Evl.ex_l e hx, List.getElem?_eq_getElem hi⟩)
    (fun i H' x H'' QG hi e y q => ?_) (fun i hi => hw _ _) (fun i hi => ht i _ (by rw [List.getD_eq_getElem?_getD, List.getElem?_eq_getElem hi]; rfl)) (fun i hi => he i _ (by rw [List.getD_eq_getElem?_getD, List.getElem?_eq_getElem hi]; rfl)) hd
  obtain ⟨T, v, rfl, hT, rfl, hf⟩ := y
  have hv := hf xs (Evl.ex_l e hx)
  have e1 : xs.getD i .non = v := by rw [List.getD_eq_getElem?_getD, hv]; rfl
  refine g_two upd_same ?_
  have q2 := q (Evl.Ex.new hT)
  rw [e1] at q2
  exact q2
theorem lc_list {a : Addr} {xs : List V} {j : Nat} (keep : Nat → Bool) (f : Nat → V) (hx : SqL K H1 a xs) (hD : H1 Dl = none) (hn : xs.length ≤ 100000)
    (hw : ∀ u : V, wipe ((wipe σ vs).set j (some u)) vs = wipe σ vs)
    (ht : ∀ i x, xs[i]? = some x → Evl.EvT tt ((wipe σ vs).set j (some x)) H1 (keep i))
    (he : ∀ i x, xs[i]? = some x → keep i = true → Evl.Ev te ((wipe σ vs).set j (some x)) H1 (f i))
    (hd : ∀ H', Evl.Ex H1 H' → H' Dl = some (.lst (kept xs.length keep f)) → Q (.ref Dl) H') : LcG (Itl K a) (gName j) tt te vs σ Dl H1 Q := by
  refine lc_pure xs.length (fun i => (wipe σ vs).set j (some (xs.getD i .non))) keep f hD hn (fun H' e => ⟨xs, Evl.ex_l e hx, Nat.le_refl _⟩) (fun i H' hi e => ⟨xs, xs[i], Evl.ex_l e hx, List.getElem?_eq_getElem hi⟩)
    (fun i H' x H'' QG hi e y q => ?_) (fun i hi => hw _) (fun i hi => ht i _ (by rw [List.getD_eq_getElem?_getD, List.getElem?_eq_getElem hi]; rfl)) (fun i hi => he i _ (by rw [List.getD_eq_getElem?_getD, List.getElem?_eq_getElem hi]; rfl)) hd
  obtain ⟨rfl, hf⟩ := y
  have hv := hf xs (Evl.ex_l e hx)
  have e1 : xs.getD i .non = x := by rw [List.getD_eq_getElem?_getD, hv]; rfl
  show QG _ _
  rw [← e1]
  exact q (Evl.Ex.refl _)
theorem lc_rng {lo : Int} {n j : Nat} (keep : Nat → Bool) (f : Nat → V) (hD : H1 Dl = none) (hn : n ≤ 100000)
    (hw : ∀ u : V, wipe ((wipe σ vs).set j (some u)) vs = wipe σ vs)
    (ht : ∀ i, i < n → Evl.EvT tt ((wipe σ vs).set j (some (.int (lo + i)))) H1 (keep i))
    (he : ∀ i, i < n → keep i = true → Evl.Ev te ((wipe σ vs).set j (some (.int (lo + i)))) H1 (f i))
    (hd : ∀ H', Evl.Ex H1 H' → H' Dl = some (.lst (kept n keep f)) → Q (.ref Dl) H') : LcG (Itr lo n) (gName j) tt te vs σ Dl H1 Q := by
  refine lc_pure n (fun i => (wipe σ vs).set j (some (.int (lo + i)))) keep f hD hn (fun H' e => Nat.le_refl _) (fun i H' hi e => hi)
    (fun i H' x H'' QG hi e y q => ?_) (fun i hi => hw _) ht he hd
  obtain ⟨rfl, rfl⟩ := y
  exact q (Evl.Ex.refl _)
end
/-! ### operations on values -/
section
variable {K : PySem.W.Frag} {H : Hp} {Q : VK}
theorem isi_int {i : Int} {T : String} {b : Bool} (h : kitB "int" T = some b) (q : Q (.bl b) H) : rIsi K [.int i, .ty T] H Q :=
  ⟨.int i, .ty T, .type "int", .type T, b, rfl, .ty T, .base (.int i), kit_ty h, q⟩
theorem ixL {p : Addr} {xs : List V} {i : Int} {v : V} (h : SqL K H p xs) (hi : atI xs i = some v) (q : Q v H) : rIxL K (.ref p) (.int i) H Q := ⟨p, xs, i, v, rfl, rfl, h, hi, q⟩
theorem setL {p : Addr} {xs : List V} {i : Int} {j : Nat} {v : V} {R : Hp → Prop} (h : H p = some (.lst xs)) (hj : ixN xs.length i = some j) (q : R (upd H p (.lst (xs.set j v)))) : rSetL (.ref p) (.int i) v H R := ⟨p, xs, i, j, rfl, rfl, h, hj, q⟩
theorem repL {p : Addr} {xs : List V} {k : Int} (h : H p = some (.lst xs)) (h1 : -(2 ^ 63) ≤ k) (h2 : k < 2 ^ 63) (hz : xs.length * k.toNat ≤ sizeLine) (q : ∀ l, H l = none → Q (.ref l) (upd H l (.lst (List.replicate k.toNat xs).flatten))) : rRep (.ref p) (.int k) H Q := ⟨p, k, xs, rfl, rfl, h, h1, h2, hz, q⟩
theorem catL {p b : Addr} {xs ys : List V} (h : H p = some (.lst xs)) (hb : H b = some (.lst ys)) (hz : xs.length + ys.length ≤ sizeLine) (q : ∀ l, H l = none → Q (.ref l) (upd H l (.lst (xs ++ ys)))) : rCat (.ref p) (.ref b) H Q := ⟨p, b, xs, ys, rfl, rfl, h, hb, hz, q⟩
theorem sumL {p : Addr} {ns : List Int} (h : SqL K H p (ns.map V.int)) (q : Q (.int ns.sum) H) : rSum K [.ref p] H Q := ⟨p, ns, rfl, h, q⟩
theorem appL {p : Addr} {xs : List V} {y : V} (h : H p = some (.lst xs)) (hz : xs.length < sizeLine) (q : Q .non (upd H p (.lst (xs ++ [y])))) : rAppend (.ref p) [y] H Q := ⟨p, xs, y, rfl, rfl, h, hz, q⟩
theorem tyL {p : Addr} {xs : List V} (h : H p = some (.lst xs)) : tyV K "list" (.ref p) H := Or.inl ⟨rfl, _, Or.inl (Or.inl h)⟩
theorem atI_n {xs : List V} {i : Int} {j : Nat} {v : V} (e : i = (j : Int)) (h : xs[j]? = some v) : atI xs i = some v := by
  subst e
  have hj := (List.getElem?_eq_some_iff.mp h).1
  unfold atI ixN
  rw [if_pos (by omega), if_pos (by omega)]
  exact h
theorem ixN_n {n : Nat} {i : Int} {j : Nat} (e : i = (j : Int)) (h : j < n) : ixN n i = some j := by
  subst e
  unfold ixN
  rw [if_pos (by omega), if_pos (by omega)]
  rfl
theorem sz_ok {n : Nat} (h : n ≤ 100000) : n ≤ sizeLine := Nat.le_trans h (by decide)
theorem sz_lt {n : Nat} (h : n < 100000) : n < sizeLine := Nat.lt_of_lt_of_le h (by decide)
end
end BC

set_option Elab.async false
set_option linter.all false
set_option maxRecDepth 100000
set_option maxHeartbeats 4000000
namespace BC
open PySem PySem.Spec PyProof.Rows L2 Evl RZ
/-! ### all but the object at b stands -/
def Fx (b : Addr) (H H' : Hp) : Prop := ∀ a o, a ≠ b → H a = some o → H' a = some o
theorem Fx.refl (b : Addr) (H : Hp) : Fx b H H := fun _ _ _ h => h
theorem Fx.trans {b : Addr} {H H1 H2 : Hp} (x : Fx b H H1) (y : Fx b H1 H2) : Fx b H H2 := fun a o n h => y a o n (x a o n h)
theorem Fx.of {b : Addr} {H H' : Hp} (e : Ex H H') : Fx b H H' := fun a o _ h => e a o h
theorem Fx.put {b : Addr} {H : Hp} {o : HO} : Fx b H (upd H b o) := fun a u n h => by rw [upd_ne n]; exact h
theorem Fx.ex {b : Addr} {H H' : Hp} (x : Fx b H H') (h : H b = none) : Ex H H' := fun a o e => x a o (ne_of_none e h) e
theorem Fx.l {K : PySem.W.Frag} {b a : Addr} {H H' : Hp} {xs : List V} (x : Fx b H H') (n : a ≠ b) (h : SqL K H a xs) : SqL K H' a xs := by
  rcases h with h | h
  · rcases h with h | ⟨o, h⟩
    · exact .inl (.inl (x a _ n h))
    · exact .inl (.inr ⟨o, x a _ n h⟩)
  · exact .inr h
/-! ### lists -/
theorem cutV_mem {xs : List V} {lo hi : Option Int} {x : V} (h : x ∈ cutV xs lo hi) : x ∈ xs := by
  unfold cutV at h
  exact List.mem_of_mem_drop (List.mem_of_mem_take h)
theorem cutV_len (xs : List V) (lo hi : Option Int) : (cutV xs lo hi).length ≤ xs.length := by
  unfold cutV
  rw [List.length_take, List.length_drop]
  omega
theorem two_at0 {x y r : Int} {n : Nat} (h0 : 0 ≤ r) (h1 : r < 2) (hx0 : 0 ≤ x) (hx1 : x ≤ n) (hy0 : 0 ≤ y) (hy1 : y ≤ n) : ∃ m : Nat, m ≤ n ∧ atI [V.int x, V.int y] r = some (.int m) := by
  by_cases e : r = 0
  · exact ⟨x.toNat, by omega, by rw [Int.toNat_of_nonneg hx0]; exact atI_n (j := 0) e rfl⟩
  · exact ⟨y.toNat, by omega, by rw [Int.toNat_of_nonneg hy0]; exact atI_n (j := 1) (by omega) rfl⟩
theorem two_at {x y r : Int} {n : Nat} (h0 : 0 ≤ r) (h1 : r < 2) (hx0 : 1 ≤ x) (hx1 : x ≤ n) (hy0 : 1 ≤ y) (hy1 : y ≤ n) : ∃ m : Nat, 1 ≤ m ∧ m ≤ n ∧ atI [V.int x, V.int y] r = some (.int m) := by
  by_cases e : r = 0
  · exact ⟨x.toNat, by omega, by omega, by rw [Int.toNat_of_nonneg (by omega)]; exact atI_n (j := 0) e rfl⟩
  · exact ⟨y.toNat, by omega, by omega, by rw [Int.toNat_of_nonneg (by omega)]; exact atI_n (j := 1) (by omega) rfl⟩
/-- a written list read at a drawn place -/
theorem pick {xs : List V} {r : Int} (h0 : 0 ≤ r) (h1 : r < xs.length) : ∃ v, v ∈ xs ∧ atI xs r = some v := by
  have hj : r.toNat < xs.length := by omega
  exact ⟨xs[r.toNat], List.getElem_mem hj, atI_n (j := r.toNat) (by omega) (List.getElem?_eq_getElem hj)⟩
theorem rep_one (n : Nat) (v : V) : (List.replicate n [v]).flatten = List.replicate n v := by
  induction n with
  | zero => rfl
  | succ n ih => rw [List.replicate_succ, List.flatten_cons, ih]; rfl
theorem take_succ {xs : List V} {i : Nat} {v : V} (h : xs[i]? = some v) : xs.take (i + 1) = xs.take i ++ [v] := by
  rw [List.take_add_one, h]
  rfl
theorem log2_small {i : Int} {k : Nat} (hk : 0 < k) (h : i.natAbs < 2 ^ k) : i.natAbs.log2 < k := PySem.Flt.log2_lt_of hk h
/-! ### kinds -/
section
variable {X : Cx} {K : PySem.W.Frag} {H : Hp} {Q : VK}
theorem k_pi_zipA {e e2 : Expr} {ta : TA} {p pos tpos : Pos} {elts : List Expr} {kk : Nat} (hK : X.K = K) (hg : Gl X "zip") (hm : X.mg "zip" = none) (ha : PA X [e, e2] ta)
    (hs : starEach [e, e2] X.env = (false, eval e X.env) :: starEach [e2] X.env := by rfl) (hpl : (backTo pos (starEach [e2] X.env)).any (·.1) = false := by rfl) : PI X (.Tuple elts kk tpos) (.Call (.Name "zip" p) [e, e2] [] pos) (iZipA K ta) := by subst hK; exact pi_zipA hg hm ha hs hpl
theorem k_isiT (hK : X.K = K) : CallR X (.builtin "isinstance") (rIsiT K) := by subst hK; exact call_isiT
theorem tyx_l {a : Addr} {xs : List V} (h : SqL K H a xs) : TyX K H (.ref a) (.type "list") := by
  rcases h with (h | ⟨o, h⟩) | ⟨o, its, n, h, c, _⟩
  · exact .base (.lst h)
  · exact .base (.frz h)
  · exact .kList h c
theorem tyx_t {a : Addr} {xs : List V} (h : SqT K H a xs) : TyX K H (.ref a) (.type "tuple") := by
  rcases h with (h | ⟨o, h⟩) | ⟨o, its, n, h, c, _⟩
  · exact .base (.tup h)
  · exact .fTuple h
  · exact .kTuple h c
def tyn : PyData → String
  | .none => "NoneType"
  | .bool _ => "bool"
  | .int _ => "int"
  | .str _ => "str"
  | .list _ => "list"
  | .tuple _ => "tuple"
  | .dict _ => "dict"
theorem tyx_d {v : V} {d : PyData} (h : Dp K H v d) : TyX K H v (.type (tyn d)) := by
  cases h with
  | non => exact .base .non
  | bl b => exact .base (.bl b)
  | int i => exact .base (.int i)
  | str x => exact .base (.str x)
  | lst h _ => exact tyx_l h
  | tup h _ => exact tyx_t h
theorem isi_x {v : V} {A T : String} {b : Bool} (h : TyX K H v (.type A)) (hk : kitB A T = some b) (q : Q (.bl b) H) : rIsi K [v, .ty T] H Q :=
  ⟨v, .ty T, .type A, .type T, b, rfl, .ty T, h, kit_ty hk, q⟩
theorem kit_two {A B C : String} {b c : Bool} (h1 : kitB A B = some b) (h2 : kitB A C = some c) : PySem.W.kitAny K (.type A) [.type B, .type C] = some (b || c) := by
  refine kitAny_cons (kit_ty h1) (fun e => ?_) (fun e => by rw [e]; rfl)
  subst e
  refine kitAny_cons (kit_ty h2) (fun e => ?_) (fun e => by rw [e]; rfl)
  subst e
  exact kitAny_nil
theorem isiT2 {v : V} {p : Addr} {A B C : String} {b c : Bool} (h : TyX K H v (.type A)) (hp : H p = some (.tup [.ty B, .ty C])) (h1 : kitB A B = some b) (h2 : kitB A C = some c) (q : Q (.bl (b || c)) H) : rIsiT K [v, .ref p] H Q :=
  ⟨v, p, [.ty B, .ty C], .type A, [.type B, .type C], b || c, rfl, hp, .cons (.ty B) (.cons (.ty C) .nil), h, kit_two h1 h2, q⟩
theorem ex_d {H H' : Hp} (e : Ex H H') : ∀ (d : PyData) (v : V), Dp K H v d → Dp K H' v d
  | .none, _, h => by cases h; exact .non
  | .bool _, _, h => by cases h; exact .bl _
  | .int _, _, h => by cases h; exact .int _
  | .str _, _, h => by cases h; exact .str _
  | .dict _, _, h => by cases h
  | .list ds, _, h => by
    cases h with
    | lst h1 h2 => exact .lst (ex_l e h1) (all ds _ h2)
  | .tuple ds, _, h => by
    cases h with
    | tup h1 h2 => exact .tup (ex_t e h1) (all ds _ h2)
where
  all : ∀ (ds : List PyData) (vs : List V), DpAll K H vs ds → DpAll K H' vs ds
  | [], _, h => by cases h; exact .nil
  | d :: ds, _, h => by
    cases h with
    | cons h1 h2 => exact .cons (ex_d e d _ h1) (all ds _ h2)
theorem dp_len : ∀ {vs : List V} {ds : List PyData}, DpAll K H vs ds → vs.length = ds.length
  | _, _, .nil => rfl
  | _, _, .cons _ h => by rw [List.length_cons, List.length_cons, dp_len h]
theorem dp_at : ∀ {vs : List V} {ds : List PyData} {i : Nat} {v : V}, DpAll K H vs ds → vs[i]? = some v → ∃ d, ds[i]? = some d ∧ Dp K H v d
  | _, _, _, _, .nil, e => by simp at e
  | _, _, 0, _, .cons h _, e => by simp at e; subst e; exact ⟨_, rfl, h⟩
  | _, _, i + 1, _, .cons _ h, e => by
    obtain ⟨d, e1, e2⟩ := dp_at (i := i) h (by simpa using e)
    exact ⟨d, by simpa using e1, e2⟩
theorem dp_ints : ∀ ns : List Int, DpAll K H (ns.map V.int) (ns.map PyData.int)
  | [] => .nil
  | n :: ns => .cons (.int n) (dp_ints ns)
/-- data of so many levels, of moderate size -/
inductive Sh : Nat → PyData → Prop
  | non (n : Nat) : Sh n .none
  | bl (n : Nat) (b : Bool) : Sh n (.bool b)
  | int (n : Nat) (i : Int) : Sh n (.int i)
  | str (n : Nat) (x : Str) : Sh n (.str x)
  | lst {n : Nat} {ds : List PyData} (hl : ds.length ≤ 100000) (h : ∀ d ∈ ds, Sh n d) : Sh (n + 1) (.list ds)
  | tup {n : Nat} {ds : List PyData} (hl : ds.length ≤ 100000) (h : ∀ d ∈ ds, Sh n d) : Sh (n + 1) (.tuple ds)
theorem sh_ints (ns : List Int) (h : ns.length ≤ 100000) : Sh 1 (.list (ns.map PyData.int)) := .lst (by rw [List.length_map]; exact h) fun d hd => by
  obtain ⟨n, _, rfl⟩ := List.mem_map.mp hd
  exact .int 0 n
end
/-! ### more readings -/
section
variable {K : PySem.W.Frag} {σ : L2.St} {H H1 : Hp} {g : TG} {tt : TT} {te : TE} {vs : List Nat} {Dl : Addr} {Q : VK}
theorem x_eqB {m n : Bool} : rEq (.bl m) (.bl n) H Q ↔ Q (.bl (decide (m = n))) H := by
  unfold rEq
  rw [show scal (V.bl m) (V.bl n) = true from rfl]
  cases m <;> cases n <;> simp
theorem x_neB {m n : Bool} : rNe (.bl m) (.bl n) H Q ↔ Q (.bl (!decide (m = n))) H := by
  unfold rNe
  rw [show scal (V.bl m) (V.bl n) = true from rfl]
  cases m <;> cases n <;> simp
theorem x_eqS {m n : Str} : rEq (.str m) (.str n) H Q ↔ Q (.bl (decide (m = n))) H := by
  unfold rEq
  rw [show scal (V.str m) (V.str n) = true from rfl]
  by_cases e : m = n
  · subst e; simp
  · simp [e]
theorem x_neS {m n : Str} : rNe (.str m) (.str n) H Q ↔ Q (.bl (!decide (m = n))) H := by
  unfold rNe
  rw [show scal (V.str m) (V.str n) = true from rfl]
  by_cases e : m = n
  · subst e; simp
  · simp [e]
theorem allL {p : Addr} {bs : List Bool} (h : SqL K H p (bs.map V.bl)) (q : Q (.bl (bs.all id)) H) : rAll K [.ref p] H Q := ⟨p, bs, rfl, h, q⟩
theorem anyL {p : Addr} {bs : List Bool} (h : SqL K H p (bs.map V.bl)) (q : Q (.bl (bs.any id)) H) : rAny K [.ref p] H Q := ⟨p, bs, rfl, h, q⟩
theorem lenL {p : Addr} {xs : List V} (h : SqL K H p xs) (q : Q (.int (xs.length : Nat)) H) : rLen K [.ref p] H Q := ⟨p, xs, rfl, .inl h, q⟩
theorem lenT {p : Addr} {xs : List V} (h : SqT K H p xs) (q : Q (.int (xs.length : Nat)) H) : rLen K [.ref p] H Q := ⟨p, xs, rfl, .inr h, q⟩
theorem x_izipA {a : TA} {R : It → Hp → Prop} : iZipA K a σ H R = a σ H (fun vs H1 => ∃ a b xs ys, vs = [.ref a, .ref b] ∧ ((SqL K H1 a xs ∧ SqL K H1 b ys ∧ R (Itz K a b) H1) ∨ (SqT K H1 a xs ∧ SqT K H1 b ys ∧ R (ItzT K a b) H1))) := rfl
theorem eq_same {v : V} (h : scal v v = true) (q : Q (.bl true) H) : rEq v v H Q := ⟨h, by rw [decide_eq_true rfl]; exact q⟩
theorem g_three {i j l : Nat} {T : Addr} {x y z : V} {QG : L2.St → Hp → Prop} (h : H T = some (.tup [x, y, z])) (q : QG (((σ.set i (some x)).set j (some y)).set l (some z)) H) : gTup K 3 (gCons (gName i) (gCons (gName j) (gCons (gName l) gNil))) (.ref T) σ H QG :=
  ⟨T, [x, y, z], rfl, .inl (.inl h), rfl, x, [y, z], rfl, y, [z], rfl, z, [], rfl, rfl, q⟩
theorem lc_zip {a b : Addr} {xs ys : List V} {j k : Nat} (keep : Nat → Bool) (f : Nat → V) (hx : SqL K H1 a xs) (hy : SqL K H1 b ys) (he0 : xs.length = ys.length) (hD : H1 Dl = none) (hn : xs.length ≤ 100000)
    (hw : ∀ u v : V, wipe (((wipe σ vs).set j (some u)).set k (some v)) vs = wipe σ vs)
    (ht : ∀ i x y, xs[i]? = some x → ys[i]? = some y → Evl.EvT tt (((wipe σ vs).set j (some x)).set k (some y)) H1 (keep i))
    (he : ∀ i x y, xs[i]? = some x → ys[i]? = some y → keep i = true → Evl.Ev te (((wipe σ vs).set j (some x)).set k (some y)) H1 (f i))
    (hd : ∀ H', Evl.Ex H1 H' → H' Dl = some (.lst (kept xs.length keep f)) → Q (.ref Dl) H') : LcG (Itz K a b) (gTup K 2 (gCons (gName j) (gCons (gName k) gNil))) tt te vs σ Dl H1 Q := by
  have gx : ∀ i, i < xs.length → xs[i]? = some (xs.getD i .non) := fun i hi => by rw [List.getD_eq_getElem?_getD, List.getElem?_eq_getElem hi]; rfl
  have gy : ∀ i, i < xs.length → ys[i]? = some (ys.getD i .non) := fun i hi => by rw [List.getD_eq_getElem?_getD, List.getElem?_eq_getElem (by omega)]; rfl
  refine lc_pure xs.length (fun i => ((wipe σ vs).set j (some (xs.getD i .non))).set k (some (ys.getD i .non))) keep f hD hn (fun H' e => ⟨xs, ys, Evl.ex_l e hx, Evl.ex_l e hy, .inl (Nat.le_refl _)⟩)
    (fun i H' hi e => ⟨xs, ys, _, _, Evl.ex_l e hx, Evl.ex_l e hy, gx i hi, gy i hi⟩)
    (fun i H' x H'' QG hi e y q => ?_) (fun i hi => hw _ _) (fun i hi => ht i _ _ (gx i hi) (gy i hi)) (fun i hi => he i _ _ (gx i hi) (gy i hi)) hd
  obtain ⟨T, u, v, rfl, hT, rfl, hf, hf2⟩ := y
  have hu := hf xs (Evl.ex_l e hx)
  have hv := hf2 ys (Evl.ex_l e hy)
  have e1 : xs.getD i .non = u := by rw [List.getD_eq_getElem?_getD, hu]; rfl
  have e2 : ys.getD i .non = v := by rw [List.getD_eq_getElem?_getD, hv]; rfl
  refine g_two upd_same ?_
  have q2 := q (Evl.Ex.new hT)
  rw [e1, e2] at q2
  exact q2
theorem lc_zipT {a b : Addr} {xs ys : List V} {j k : Nat} (keep : Nat → Bool) (f : Nat → V) (hx : SqT K H1 a xs) (hy : SqT K H1 b ys) (he0 : xs.length = ys.length) (hD : H1 Dl = none) (hn : xs.length ≤ 100000)
    (hw : ∀ u v : V, wipe (((wipe σ vs).set j (some u)).set k (some v)) vs = wipe σ vs)
    (ht : ∀ i x y, xs[i]? = some x → ys[i]? = some y → Evl.EvT tt (((wipe σ vs).set j (some x)).set k (some y)) H1 (keep i))
    (he : ∀ i x y, xs[i]? = some x → ys[i]? = some y → keep i = true → Evl.Ev te (((wipe σ vs).set j (some x)).set k (some y)) H1 (f i))
    (hd : ∀ H', Evl.Ex H1 H' → H' Dl = some (.lst (kept xs.length keep f)) → Q (.ref Dl) H') : LcG (ItzT K a b) (gTup K 2 (gCons (gName j) (gCons (gName k) gNil))) tt te vs σ Dl H1 Q := by
  have gx : ∀ i, i < xs.length → xs[i]? = some (xs.getD i .non) := fun i hi => by rw [List.getD_eq_getElem?_getD, List.getElem?_eq_getElem hi]; rfl
  have gy : ∀ i, i < xs.length → ys[i]? = some (ys.getD i .non) := fun i hi => by rw [List.getD_eq_getElem?_getD, List.getElem?_eq_getElem (by omega)]; rfl
  refine lc_pure xs.length (fun i => ((wipe σ vs).set j (some (xs.getD i .non))).set k (some (ys.getD i .non))) keep f hD hn (fun H' e => ⟨xs, ys, Evl.ex_t e hx, Evl.ex_t e hy, .inl (Nat.le_refl _)⟩)
    (fun i H' hi e => ⟨xs, ys, _, _, Evl.ex_t e hx, Evl.ex_t e hy, gx i hi, gy i hi⟩)
    (fun i H' x H'' QG hi e y q => ?_) (fun i hi => hw _ _) (fun i hi => ht i _ _ (gx i hi) (gy i hi)) (fun i hi => he i _ _ (gx i hi) (gy i hi)) hd
  obtain ⟨T, u, v, rfl, hT, rfl, hf, hf2⟩ := y
  have hu := hf xs (Evl.ex_t e hx)
  have hv := hf2 ys (Evl.ex_t e hy)
  have e1 : xs.getD i .non = u := by rw [List.getD_eq_getElem?_getD, hu]; rfl
  have e2 : ys.getD i .non = v := by rw [List.getD_eq_getElem?_getD, hv]; rfl
  refine g_two upd_same ?_
  have q2 := q (Evl.Ex.new hT)
  rw [e1, e2] at q2
  exact q2
theorem all_true (n : Nat) : ((List.replicate n true).all id) = true := by
  induction n with
  | zero => rfl
  | succ n ih => rw [List.replicate_succ, List.all_cons, ih]; rfl
theorem kept_const (n : Nat) (v : V) : kept n (fun _ => true) (fun _ => v) = List.replicate n v := by
  rw [kept_all]
  apply List.ext_getElem?
  intro j
  rw [List.getElem?_map]
  by_cases h : j < n
  · rw [List.getElem?_range h, List.getElem?_replicate, if_pos h]
    rfl
  · rw [List.getElem?_eq_none (by rw [List.length_range]; omega), List.getElem?_eq_none (by rw [List.length_replicate]; omega)]
    rfl
end
end BC

set_option Elab.async false
set_option linter.all false
set_option maxRecDepth 100000
set_option maxHeartbeats 4000000
/-! repr of lists wants to know that no repr is under way around: promises that hold where nothing is guarded -/
namespace BC
open PySem PySem.Spec PyProof.Rows L2 Evl
/-- nothing is guarded around -/
def G0 (A : Around) : Prop := A.guards = some []
theorem G0.deeper {A : Around} (g : G0 A) (env : Env) : G0 (A.deeper env) := g
/-- FnOk where nothing is guarded around -/
structure FnG (P : Program) (w : World) (K : PySem.W.Frag) (mg : Str → Option Value) (base : Heap) (CX : CXT) (k : Nat) (f : Addr) (fd : FuncData) (ps : List Str) (sp : Sp) : Prop where
  size : ∀ vs H Q E, sp vs H Q E → vs.length = ps.length
  go : ∀ (A : Around) (outer : List Env) (s : Shared) (H : Hp) (args : Args) (us : List Value) (vs : List V) (Q : VK) (E : XK), G0 A → Room k A → Env0 P w K mg base A outer s H →
    BindsTo s fd args (ps.zip us) → Vals vs us → sp vs H Q E → codeAny (model P w) A (.call (.ref f) args) (CR CX outer P w H s Q E) s
section
variable {P : Program} {w : World} {K : PySem.W.Frag} {mg : Str → Option Value} {base : Heap} {CX : CXT} {k : Nat} {f : Addr} {fd : FuncData} {ps : List Str} {sp : Sp}
theorem FnG.of (F : FnOk P w K mg base CX k f fd ps sp) : FnG P w K mg base CX k f fd ps sp :=
  ⟨F.len, fun A outer s H args us vs Q E _ => F.run A outer s H args us vs Q E⟩
theorem FnG.up (F : FnG P w K mg base CX k f fd ps sp) {j : Nat} (h : k ≤ j) : FnG P w K mg base CX j f fd ps sp :=
  ⟨F.size, fun A outer s H args us vs Q E g hr => F.go A outer s H args us vs Q E g (hr.mono h)⟩
/-- the rule for a def -/
theorem fun_okG {x qual : Str} {st : Stmt} {N : List Str} (F : Fun K x qual st f fd) (S : FnScope N ps (defScope st)) (size : ∀ vs H Q E, sp vs H Q E → vs.length = ps.length)
    (body : ∀ (cdv : Value) (A : Around) (outer : List Env) (s : Shared) (H : Hp) (vs : List V) (Q : VK) (E : XK), G0 (A.deeper (envOfC qual (defScope st) s.heap.objs.size f cdv)) → Room k (A.deeper (envOfC qual (defScope st) s.heap.objs.size f cdv)) → sp vs H Q E →
      ∃ t, PSs (cxOf CX P w K mg base N qual (defScope st) f cdv A outer s H E) (defBody st) t ∧ t { nx := fun _ H' => Q .non H', rt := Q } (start N vs) H) : FnG P w K mg base CX (k + 1) f fd ps sp := by
  obtain ⟨oc, od, kV, doc, pm, an, cdv, ct, osl, rfl, lk, hcd⟩ := F.ex
  refine ⟨size, fun A outer s H args us vs Q E g room env bind vals prom => ?_⟩
  have inK : K.In s.heap := env.mod.kin.keeps fun b o q => (env.bs b o q).1
  have loose : s.heap.NoLimit := env.mod.nolimit.keeps fun b o q => (env.bs b o q).1
  have kinds : ∀ z ∈ ps.zip us, (defScope st).names.lookup z.1 = some .local ∨ ((defScope st).names.lookup z.1 = some .cell ∧ ((cellsFrom (s.heap.objs.size + 1) (defScope st).names []).lookup z.1).isSome = true) := by
    rintro ⟨n, v⟩ hz
    have hn := (List.of_mem_zip hz).1
    rcases S.par n hn with h | h
    · exact Or.inl h
    · exact Or.inr ⟨h, PySem.W.cellsFrom_some _ _ _ (Or.inl h)⟩
  refine codeAny_call_function room.depth (inK _ _ lk) rfl S.co S.gen rfl (PySem.W.codeRec_of inK hcd) (bind _ _ _ _ ?_)
  refine wpAny_newFunctionEnv_cells S.kind kinds fun env' e1 s1 into => ?_
  subst e1
  refine ⟨loose.keeps into.toInCall.keep, codeAny_func ?_⟩
  obtain ⟨t, deriv, read⟩ := body cdv A outer s H vs Q E (g.deeper _) (room.deeper _) prom
  have I := inv_start (CX := CX) (E := E) S room.hd env (size _ _ _ _ prom) vals into
  refine wpAny_mono (deriv.run [] s1 (start N vs) H _ I read) (fun flow s' ends => ?_) fun _ _ q => q
  have done : ∀ {σ2 : L2.St} {H2 : Hp} {v : V} {u : Value}, Inv (cxOf CX P w K mg base N qual (defScope st) f cdv A outer s H E) [] σ2 H2 s' → RelV v u → Q v H2 → CE outer P w H s Q u s' := by
    intro σ2 H2 v u J rel q
    exact ⟨v, H2, J.os, J.bare, J.base, J.hok, rel, q⟩
  match flow, ends with
  | .ret u, ends =>
    obtain ⟨v, σ2, H2, J, rel, q⟩ := ends
    exact done J rel q
  | .next, ends =>
    obtain ⟨σ2, H2, J, q⟩ := ends
    exact done (v := V.non) (u := Value.none) J rfl q
  | .brk, ends =>
    obtain ⟨_, _, _, q⟩ := ends
    exact q.elim
  | .cont, ends =>
    obtain ⟨_, _, _, q⟩ := ends
    exact q.elim
end
section
variable {X : Cx} {CX : CXT} {k : Nat} {f : Addr} {fd : FuncData} {ps : List Str} {sp : Sp} {dvs : List V} {ds : List Value} {E : XK} {x : Str} {p pos : Pos} {e : Expr} {es : List Expr} {t : TA}
theorem call_G {pins : List (Addr × Obj)} {σ : L2.St} {H : Hp} {s : Shared} {Q : VK} {us : List Value} {vs : List V} (F : FnG X.prog X.w X.K X.mg X.base CX k f fd ps sp) (g : G0 X.A) (hr : Room k X.A) (hb : Binds X.K fd ps ds) (hd : Vals dvs ds)
    (hx : Passes CX X E) (I : Inv X pins σ H s) (r : Vals vs us) (h : sp (vs ++ dvs) H Q E) : wpAny (model X.prog X.w) X.A (call (.ref f) us) (EP X pins σ Q) X.xe s := by
  have both : Vals (vs ++ dvs) (us ++ ds) := r.append hd
  have many : (us ++ ds).length = ps.length := both.length.symm.trans (F.size _ _ _ _ h)
  have run := F.go X.A X.stack s H ⟨us, []⟩ (us ++ ds) (vs ++ dvs) Q E g hr I.env0 (hb s us I.kIn many) both h
  refine wpAny_call (codeAny_mono run fun res s' q => ?_)
  match res, q with
  | .error err, q => exact hx pins σ H s err s' I q
  | .ok (.ret u), q => exact I.after q
theorem pe_callG (F : FnG X.prog X.w X.K X.mg X.base CX k f fd ps sp) (g : G0 X.A) (hr : Room k X.A) (hg : Gl X x) (hm : X.mg x = some (.ref f)) (hk : PySem.W.keepIn X.K (.ref f) = true) (hb : Binds X.K fd ps ds) (hd : Vals dvs ds) (hx : Passes CX X E)
    (ha : PA X (e :: es) t) (hdb : (x == ("__debug__" : Str)) = false := by decide) (he : starEach (e :: es) X.env = (false, eval e X.env) :: starEach es X.env := by rfl) (hpl : (backTo pos (starEach es X.env)).any (·.1) = false := by rfl) :
    PE X (.Call (.Name x p) (e :: es) [] pos) (tCall sp dvs E t) := by
  constructor
  intro pins s σ H Q I h
  have args := ha.run pos pins s σ H _ I h
  refine wpAny_Call_Name_kw (ld_glob I hg hm (PySem.W.callWith_K (h₀ := X.base) I.ok.mod.kin hk (thn args ?_) he hpl) hdb)
  rintro us s1 ⟨vs, H1, I1, r, q⟩
  exact ⟨I1.kIn, call_G F g hr hb hd hx I1 r q⟩
end

/-! ### the law's own call, for a promise of this kind -/
section
variable {P : Program} {w : World} {K : PySem.W.Frag} {mg mb : Str → Option Value} {k : Nat} {fa a : Addr} {fd : FuncData} {x : Str} {sp : Sp} {s : Shared} {vs : List Value} {ns : List Int}
/-- the abstract heap at the entry: the script alone, locked; or nothing, where the script is the module's own -/
def entryH (a : Addr) (vs : List Value) (ns : List Int) (own : Bool) : Hp := fun b => if own = false ∧ b = a then some (.frz { cls := .type "list", data := .seq vs.toArray } (.lst (ns.map V.int))) else none
theorem entry_other {own : Bool} {b : Addr} (h : b ≠ a) : entryH a vs ns own b = none := if_neg fun z => h z.2
theorem entry_own {b : Addr} : entryH a vs ns true b = none := if_neg fun z => nomatch z.1
theorem entry_at : entryH a vs ns false a = some (.frz { cls := .type "list", data := .seq vs.toArray } (.lst (ns.map V.int))) := if_pos ⟨rfl, rfl⟩
theorem entry_case {own : Bool} {b : Addr} {o : HO} (h : entryH a vs ns own b = some o) : own = false ∧ b = a ∧ o = .frz { cls := .type "list", data := .seq vs.toArray } (.lst (ns.map V.int)) := by
  unfold entryH at h
  by_cases q : own = false ∧ b = a
  · rw [if_pos q] at h
    exact ⟨q.1, q.2, (Option.some.inj h).symm⟩
  · rw [if_neg q] at h
    cases h
theorem law_goG (hK : K.In s.heap) (hns : s.heap.Ns mainGlobals mg) (hb : s.heap.Ns builtinsNs mb) (hbb : ∀ x : Str, x ≠ "__name__" → mb x = bootBuiltins x) (hlim : s.heap.NoLimit) (hg : s.gens = #[])
    (ha : s.heap.get? a = some { cls := .type "list", data := .seq vs.toArray }) (hi : IntsAre vs ns) (hl : ns.length ≤ sizeLine) (hr : Room k callerA)
    (F : ∀ base : Heap, K.In base → base.Ns mainGlobals mg → FnG P w K mg base CX0 k fa fd [x] sp) (bind : ∀ (s : Shared) (u : Value), BindsTo s fd ⟨[u], []⟩ [(x, u)])
    (prom : ∀ H : Hp, SqL K H a (ns.map V.int) → sp [.ref a] H (fun v _ => v = .bl true) fun _ _ _ => False) :
    codeAny (model P w) callerA (.call (.ref fa) ⟨[.ref a], []⟩) (fun r s' => r = .ok (.ret (.bool true)) ∧ OldK s.heap s'.heap ∧ s'.os = s.os ∧ AllBare s'.gens) s := by
  have rv := vals_ints hi
  have many := hi.length
  obtain ⟨own, hown⟩ : ∃ own : Bool, own = (K.lookup a).isSome := ⟨_, rfl⟩
  let H : Hp := entryH a vs ns own
  have reads : SqL K H a (ns.map V.int) := by
    cases q : K.lookup a with
    | none =>
      have e : own = false := by rw [hown, q]; rfl
      exact Or.inl (Or.inr ⟨_, by show entryH a vs ns own a = _; rw [e]; exact entry_at⟩)
    | some o =>
      have z := hK a o q
      rw [ha] at z
      cases z
      refine Or.inr ⟨_, vs.toArray, _, q, rfl, rfl, rfl, ?_, ?_⟩
      · rw [List.size_toArray, many]
        exact hl
      · exact rv
  have held : HOk P w H s.heap := fun b o q => by
    obtain ⟨_, rfl, rfl⟩ := entry_case q
    exact ⟨ha, by rw [List.length_map]; exact hl, vs, _, rv, ha⟩
  have spare : ∀ {b : Addr} {o : Obj}, s.heap.get? b = some o → (∀ u n, o.data ≠ .seq u n) → H b = none := fun {b o} e d => by
    cases q : H b with
    | none => rfl
    | some u =>
      obtain ⟨_, rfl, _⟩ := entry_case q
      rw [ha] at e
      cases e
      exact absurd rfl (d _ _)
  have nsT : ∀ {b : Addr} {m : Str → Option Value}, s.heap.Ns b m → (hidT s.heap H).Ns b m := by
    rintro b m ⟨o, es, ep, e, d, r⟩
    exact ⟨o, es, ep, hidT_get e (spare e fun u n z => by rw [d] at z; cases z), d, r⟩
  have kT : K.In (hidT s.heap H) := fun b o e => hidT_get (hK b o e) (by
    cases q : H b with
    | none => rfl
    | some u =>
      obtain ⟨z, rfl, _⟩ := entry_case q
      rw [hown, e] at z
      cases z)
  have module : Mod K mg (hidT s.heap H) := ⟨kT, nsT hns, ⟨mb, nsT hb, hbb⟩, by obtain ⟨mc, h1, h2⟩ := hlim; exact ⟨mc, nsT h1, h2⟩⟩
  have entry : Env0 P w K mg (hidT s.heap H) callerA [] s H :=
    ⟨rfl, module, fun b o e => of_hidT e, Nat.le_of_eq (hidT_size _ _), trivial, fun b z => (List.not_mem_nil z).elim, held, .of_eq hg⟩
  have ran := (F _ kT (nsT hns)).go callerA [] s H ⟨[.ref a], []⟩ [.ref a] [.ref a] _ _ rfl hr entry (bind s (.ref a)) (.cons rfl .nil) (prom H reads)
  refine codeAny_mono ran fun r s' q => ?_
  match r, q with
  | .ok (.ret u), q =>
    obtain ⟨v, H', os, bare, un, held', rel, fin⟩ := q
    obtain rfl : v = .bl true := fin
    obtain rfl : u = Value.bool true := rel
    refine ⟨rfl, OldK.of_keep fun b o e => ?_, os, bare⟩
    cases q : H b with
    | none => exact un.keep b o e q (fun z => (List.not_mem_nil z).elim) List.not_mem_nil
    | some u =>
      obtain ⟨_, rfl, rfl⟩ := entry_case q
      have z := (held' _ _ (un.frzs _ _ _ q)).1
      rw [ha] at e
      cases e
      exact z
theorem walk_G {l : PySem.W.OpenLaw} {n k : Nat} {q : Program} {loose : List Str} {XP : (Str → Option Value) → Heap → Prop} {YP : World → Heap → Prop} {d : DefRec} {K : Params → PySem.W.Frag} {sp : World → Sp} {x : Str}
    (hn : l.most = some n) (hn2 : n ≤ sizeLine) (hdf : d.params.defaults = []) (hr : Room k callerA) (hY : ∀ (w : World) (h : Heap), YP w h → (K w.params).In h)
    (F : ∀ (w : World) (mg : Str → Option Value) (fa : Addr) (h : Heap), (K w.params).In h → h.Ns mainGlobals mg → mg d.name = some (.ref fa) →
      ∃ fd : FuncData, (∀ (s : Shared) (u : Value), BindsTo s fd ⟨[u], []⟩ [(x, u)]) ∧ ∀ base : Heap, (K w.params).In base → base.Ns mainGlobals mg → FnG l.prog w (K w.params) mg base CX0 k fa fd [x] (sp w))
    (prom : ∀ (w : World) (H : Hp) (a : Addr) (ns : List Int), ns.length ≤ n → SqL (K w.params) H a (ns.map V.int) → sp w [.ref a] H (fun v _ => v = .bl true) fun _ _ _ => False) :
    PySem.W.WalkO q loose XP YP l.row.toRowW d [] (fun f vs => PySem.call f vs) := by
  refine Att.attach_call hn hdf ?_
  intro w s0 s1 mg mb fa o pm cd doc a vs ns G Y _ hd hcd hmg hobj hints hlen hg
  have inK := hY w _ Y
  obtain ⟨fd, bind, keep⟩ := F w mg fa _ inK G.T.g hmg
  exact law_goG inK G.T.g G.T.b G.T.builtins G.T.nolimit hg hobj hints (Nat.le_trans hlen hn2) hr keep bind fun H hS => prom w H a ns hlen hS
end
end BC

set_option Elab.async false
set_option linter.all false
set_option maxRecDepth 100000
set_option maxHeartbeats 4000000
/-! repr, keywords, more readings -/
namespace BC
open PySem PySem.Spec PyProof.Rows L2 Evl
section
variable {X : Cx} {K : PySem.W.Frag} {σ : L2.St} {H : Hp} {Q : VK}
/-- repr of lists, tuples and what lies in them -/
def rRepr (K : PySem.W.Frag) : List V → Hp → VK → Prop := fun xs H Q => ∃ a d, xs = [.ref a] ∧ Dp K H (.ref a) d ∧ d.showable = true ∧ d.depth ≤ 60 ∧ d.hasDict = false ∧ d.shown.length ≤ sizeLine ∧ Q (.str d.shown) H
theorem k_repr (hK : X.K = K) (g : G0 X.A) (hu : X.A.units + 64 < cLine) : CallR X (.builtin "repr") (rRepr K) := by
  subst hK
  intro pins s σ H xs us Q I r h
  obtain ⟨a, d, rfl, hd, h1, h2, h3, h4, q⟩ := h
  obtain ⟨u, rfl, rfl⟩ := vals1 r
  obtain ⟨as, rd⟩ := Dp.reads I d (.ref a) (.ref a) hd rfl
  exact repr_of_reads' rd h1 (PyData.noDict_hsm h3) g (by omega) (fun _ _ e => e) (fun h' u tk hk => ⟨.str _, H, I.kept hk, ⟨_, rfl⟩, q⟩) h4
def rIsB : R2 := fun x y H Q => ∃ a b, x = .bl a ∧ y = .bl b ∧ Q (.bl (decide (a = b))) H
def rIsNB : R2 := fun x y H Q => ∃ a b, x = .bl a ∧ y = .bl b ∧ Q (.bl (!decide (a = b))) H
theorem op_isB : OpR X (compareOp .Is) rIsB := op_is_bl
theorem op_isNB : OpR X (compareOp .IsNot) rIsNB := op_isnot_bl
theorem x_isB {a b : Bool} : rIsB (.bl a) (.bl b) H Q ↔ Q (.bl (decide (a = b))) H := ⟨fun ⟨i, j, e1, e2, q⟩ => by cases e1; cases e2; exact q, fun q => ⟨a, b, rfl, rfl, q⟩⟩
theorem x_isNB {a b : Bool} : rIsNB (.bl a) (.bl b) H Q ↔ Q (.bl (!decide (a = b))) H := ⟨fun ⟨i, j, e1, e2, q⟩ => by cases e1; cases e2; exact q, fun q => ⟨a, b, rfl, rfl, q⟩⟩
theorem x_lrg {te : L2.St → Hp → (Int → Int → Hp → Prop) → Prop} : tLstRg te σ H Q = te σ H fun a b H1 => RgOk a b ∧ ∀ q, H1 q = none → Q (.ref q) (upd H1 q (.lst (rgV a b))) := rfl
theorem x_rg1 {ta : TE} {R : Int → Int → Hp → Prop} : tRg1 ta σ H R = ta σ H fun x H1 => ∃ n, x = .int n ∧ R 0 n H1 := rfl
theorem x_rg2 {ta tb : TE} {R : Int → Int → Hp → Prop} : tRg2 ta tb σ H R = ta σ H fun x H1 => tb σ H1 fun y H2 => ∃ i j, x = .int i ∧ y = .int j ∧ R i j H2 := rfl
end
theorem Fx.mut {b r : Addr} {H H' : Hp} {o : HO} (f : Fx b H H') (n : H r = none) : Fx b H (upd H' r o) := fun a u na h => by rw [upd_ne (ne_of_none h n)]; exact f a u na h
theorem fx_none {b x : Addr} {H H' : Hp} (h : Fx b H H') (n : H' x = none) (nb : x ≠ b) : H x = none := by
  cases e : H x with
  | none => rfl
  | some o => rw [h _ _ nb e] at n; cases n
/-- a promise that asks for more -/
theorem weak {P : Program} {w : World} {K : PySem.W.Frag} {mg : Str → Option Value} {base : Heap} {CX : CXT} {k : Nat} {f : Addr} {fd : FuncData} {ps : List Str} {sp sp' : Sp} (F : FnOk P w K mg base CX k f fd ps sp) (h : ∀ vs H Q E, sp' vs H Q E → sp vs H Q E) : FnOk P w K mg base CX k f fd ps sp' :=
  ⟨fun vs H Q E q => F.len vs H Q E (h _ _ _ _ q), fun A outer s H args us vs Q E hr env bind vals q => F.run A outer s H args us vs Q E hr env bind vals (h _ _ _ _ q)⟩
/-! ### a cut: what stands after one statement -/
section
variable {σ : L2.St} {H : Hp} {D : Ends} {ta : TE} {s1 s2 : TS} {i : Nat}
theorem seq_asg (C : V → Hp → Prop) (h1 : ∀ R : VK, (∀ v H', C v H' → R v H') → ta σ H R) (h2 : ∀ v H', C v H' → s2 D (σ.set i (some v)) H') : tSeq (tAsg ta (gName i)) s2 D σ H := h1 _ h2
theorem seq_cut (C : L2.St → Hp → Prop) (h1 : ∀ N : L2.St → Hp → Prop, (∀ σ' H', C σ' H' → N σ' H') → s1 { D with nx := N } σ H) (h2 : ∀ σ' H', C σ' H' → s2 D σ' H') : tSeq s1 s2 D σ H := h1 _ h2
end
/-! ### keywords -/
def kg {α : Type} (d : α) (a b : Nat) (perm : List Nat) (us ws : List α) : List α := if us.length = a ∧ ws.length = b then perm.map fun i => (us ++ ws).getD i d else []
theorem vals_getD : ∀ {vs : List V} {us : List Value}, Vals vs us → ∀ i, RelV (vs.getD i .non) (us.getD i .none)
  | [], [], .nil, _ => rfl
  | _ :: _, _ :: _, .cons h _, 0 => h
  | _ :: _, _ :: _, .cons _ r, i + 1 => vals_getD r i
theorem vals_perm {vs : List V} {us : List Value} (r : Vals vs us) : ∀ p : List Nat, Vals (p.map fun i => vs.getD i .non) (p.map fun i => us.getD i .none)
  | [] => .nil
  | i :: p => .cons (vals_getD r i) (vals_perm r p)
theorem kg_rel {a b : Nat} {p : List Nat} {vs : List V} {us : List Value} {zs : List V} {ws : List Value} (r : Vals vs us) (z : Vals zs ws) : Vals (kg .non a b p vs zs) (kg .none a b p us ws) := by
  unfold kg
  rw [r.length, z.length]
  split
  · exact vals_perm (r.append z) p
  · exact .nil
theorem kg_mk {K : PySem.W.Frag} {fd : FuncData} {q : Str} {ps ks : List Str} {a b : Nat} {p : List Nat} (h : ∀ us ws : List Value, us.length = a → ws.length = b → bindArgs fd ⟨us, ks.zip ws⟩ = pure ((q :: ps).zip (p.map fun i => (us ++ ws).getD i .none))) :
    KBinds K fd (q :: ps) ks (kg .none a b p) (kg .non a b p) := by
  refine ⟨fun s us ws _ hl => ?_, kg_rel⟩
  unfold kg at hl ⊢
  split at hl
  · next c =>
    rw [if_pos c]
    exact .of_eq (h us ws c.1 c.2)
  · cases hl
theorem fun_okN {P : Program} {w : World} {K : PySem.W.Frag} {mg : Str → Option Value} {base : Heap} {CX : CXT} {k : Nat} {f : Addr} {fd : FuncData} {ps : List Str} {sp : Sp} {x qual : Str} {st : Stmt} {N : List Str} (F : Fun K x qual st f fd) (S : FnScope N ps (defScope st)) (size : ∀ vs H Q E, sp vs H Q E → vs.length = ps.length)
    (body : ∀ (cdv : Value) (A : Around) (outer : List Env) (s : Shared) (H : Hp) (vs : List V) (Q : VK) (E : XK), G0 (A.deeper (envOfC qual (defScope st) s.heap.objs.size f cdv)) → Room k (A.deeper (envOfC qual (defScope st) s.heap.objs.size f cdv)) → sp vs H Q E →
      ∃ t, PSs (cxOf CX P w K mg base N qual (defScope st) f cdv A outer s H E).nox (defBody st) t ∧ t { nx := fun _ H' => Q .non H', rt := Q } (start N vs) H) : FnG P w K mg base CX (k + 1) f fd ps sp :=
  fun_okG F S size fun cdv A outer s H vs Q E hG hr h => let ⟨t, d, q⟩ := body cdv A outer s H vs Q E hG hr h; ⟨t, d.nox, q⟩
theorem Fun.kb {K : PySem.W.Frag} {x qual q : Str} {st : Stmt} {f : Addr} {fd : FuncData} {ps ks : List Str} {a b : Nat} {p : List Nat} (F : Fun K x qual st f fd)
    (h : ∀ (kV doc pm : Value) (an : Option Addr) (cdv ct : Value) (us ws : List Value), us.length = a → ws.length = b → bindArgs (PySem.W.fnOf x qual (defArgs st) (defBody st) (defScope st) .none kV doc pm an cdv ct) ⟨us, ks.zip ws⟩ = pure ((q :: ps).zip (p.map fun i => (us ++ ws).getD i .none))) :
    KBinds K fd (q :: ps) ks (kg .none a b p) (kg .non a b p) := by
  obtain ⟨oc, od, kV, doc, pm, an, cdv, ct, osl, rfl, lk, hcd⟩ := F.ex
  exact kg_mk (h kV doc pm an cdv ct)
section
variable {X : Cx} {CX : CXT} {k : Nat} {f : Addr} {fd : FuncData} {ps ks : List Str} {sp : Sp} {E : XK} {x : Str} {p pos : Pos} {e : Expr} {es : List Expr} {kws : List Keyword} {t tk : TA} {g : List Value → List Value → List Value} {gV : List V → List V → List V}
theorem pe_callK0 (F : FnOk X.prog X.w X.K X.mg X.base CX k f fd ps sp) (hr : Room k X.A) (hg : Gl X x) (hm : X.mg x = some (.ref f)) (hk : PySem.W.keepIn X.K (.ref f) = true) (hb : KBinds X.K fd ps ks g gV) (hx : Passes CX X E)
    (hkw : PK X kws tk) (hall : (backToKw pos (keywordEach kws X.env)).all (·.1.isSome) = true := by rfl) (hks : (backToKw pos (keywordEach kws X.env)).filterMap (·.1) = ks := by rfl)
    (hdb : (x == ("__debug__" : Str)) = false := by decide)
    (hpl : ((backTo pos (starEach [] X.env)).any (·.1) || (backToKw pos (keywordEach kws X.env)).any (·.1.isNone)) = false := by rfl) :
    PE X (.Call (.Name x p) [] kws pos) (tCallK sp gV E tNil tk) := by
  refine ⟨fun pins s σ H Q I h => ?_⟩
  refine wpAny_Call_Name_kw (ld_glob I hg hm ?_ hdb)
  refine PySem.W.callWith_KW0 (h₀ := X.base) I.ok.mod.kin hk hall (thn (hkw.run pos pins s σ H _ I h) fun ws s2 ⟨zs, H2, I2, rz, q2⟩ => ⟨I2.kIn, ?_⟩) hpl
  rw [hks]
  exact run_fnk F hr hb hx I2 .nil rz q2
theorem run_fnkG {pins : List (Addr × Obj)} {σ : L2.St} {H : Hp} {s : Shared} {Q : VK} {us ws : List Value} {vs zs : List V} (F : FnG X.prog X.w X.K X.mg X.base CX k f fd ps sp) (g0 : G0 X.A) (hr : Room k X.A) (hb : KBinds X.K fd ps ks g gV) (hx : Passes CX X E)
    (I : Inv X pins σ H s) (r : Vals vs us) (rz : Vals zs ws) (h : sp (gV vs zs) H Q E) : wpAny (model X.prog X.w) X.A (call (.ref f) us (ks.zip ws)) (EP X pins σ Q) X.xe s := by
  have r2 := hb.rel r rz
  have hl : (g us ws).length = ps.length := by rw [← r2.length]; exact F.size _ _ _ _ h
  refine wpAny_call (codeAny_mono (F.go X.A X.stack s H ⟨us, ks.zip ws⟩ (g us ws) (gV vs zs) Q E g0 hr I.env0 (hb.to s us ws I.kIn hl) r2 h) fun r s' hq => ?_)
  cases r with
  | error e => exact hx pins σ H s e s' I hq
  | ok fl =>
    cases fl with
    | ret u => exact I.after hq
    | next => exact False.elim hq
    | brk => exact False.elim hq
    | cont => exact False.elim hq
theorem pe_callKG (F : FnG X.prog X.w X.K X.mg X.base CX k f fd ps sp) (g0 : G0 X.A) (hr : Room k X.A) (hg : Gl X x) (hm : X.mg x = some (.ref f)) (hk : PySem.W.keepIn X.K (.ref f) = true) (hb : KBinds X.K fd ps ks g gV) (hx : Passes CX X E)
    (ha : PA X (e :: es) t) (hkw : PK X kws tk) (hall : (backToKw pos (keywordEach kws X.env)).all (·.1.isSome) = true := by rfl) (hks : (backToKw pos (keywordEach kws X.env)).filterMap (·.1) = ks := by rfl)
    (hdb : (x == ("__debug__" : Str)) = false := by decide) (he : starEach (e :: es) X.env = (false, eval e X.env) :: starEach es X.env := by rfl)
    (hpl : ((backTo pos (starEach (e :: es) X.env)).any (·.1) || (backToKw pos (keywordEach kws X.env)).any (·.1.isNone)) = false := by rfl) :
    PE X (.Call (.Name x p) (e :: es) kws pos) (tCallK sp gV E t tk) := by
  refine ⟨fun pins s σ H Q I h => ?_⟩
  refine wpAny_Call_Name_kw (ld_glob I hg hm ?_ hdb)
  refine PySem.W.callWith_KW (h₀ := X.base) I.ok.mod.kin hk hall (thn (ha.run pos pins s σ H _ I h) fun us s1 ⟨vs, H1, I1, r, q⟩ => ?_) hpl he
  refine thn (hkw.run pos pins s1 σ H1 _ I1 q) fun ws s2 ⟨zs, H2, I2, rz, q2⟩ => ⟨I2.kIn, ?_⟩
  rw [hks]
  exact run_fnkG F g0 hr hb hx I2 r rz q2
end
end BC

set_option Elab.async false
set_option linter.all false
set_option maxRecDepth 100000
set_option maxHeartbeats 4000000
/-! xs[:] = ys -/
namespace BC
open PySem PySem.Spec PyProof.Rows L2 Evl
theorem bounds_all (n : Nat) : sliceBounds none none none n = (((0 : Nat) : Int), ((n : Nat) : Int), 1) := by
  simp [sliceBounds]
section
variable {prog : Program} {w : World} {A : Around} {s : Shared} {E : Value → Shared → Prop}
theorem setItem_all {l b sl : Addr} {items new : Array Value} {n n2 : Nat} {vl vu : Value} {Q : Unit → Shared → Prop}
    (e : s.heap.get? l = some { cls := .type "list", data := .seq items n }) (e2 : s.heap.get? b = some { cls := .type "list", data := .seq new n2 }) (hne : l ≠ b)
    (hs : s.heap.IsSliceOf sl vl vu .none) (pl : IsPart vl none) (pu : IsPart vu none)
    (hsz : items.size + new.size ≤ sizeLine) (h : Q () { s with heap := s.heap.update l (Obj.mapSeq fun xs => xs.extract 0 0 ++ new ++ xs.extract items.size xs.size) }) :
    wpAny (model prog w) A (setItem (.ref l) (.ref sl) (.ref b)) Q E s := by
  have hl : s.heap.IsList l items := PySem.IsL.isList e
  have hb : s.heap.IsList b new := PySem.IsL.isList e2
  obtain ⟨os, hos, hcs, hds⟩ := id hs
  have hTs : s.TypeIs (.ref sl) "slice" := ⟨os, hos, hcs⟩
  have hstep : ¬ ((rawPart none == rawInt 0) = true) := Bool.false_ne_true
  have hsame : Builtin.List.listSameRef (.ref l) (.ref b) = false := by
    unfold Builtin.List.listSameRef
    exact beq_eq_false_iff_ne.mpr hne
  have hmax : (max ((0 : Nat) : Int) ((items.size : Nat) : Int)).toNat = items.size := by omega
  have hz' : ((fun xs : Array Value => xs.extract 0 0 ++ new ++ xs.extract items.size xs.size) items).size ≤ sizeLine + 1 := by
    simp only [Array.size_append, Array.size_extract]
    omega
  unfold setItem
  try with_reducible refine wpAny_holding ?_
  first | refine wpAny_bind (wpAny_pure ?_) | skip
  refine wpAny_bind (wpAny_sequenceKey hl.typeIs (by decide) ?_)
  refine wpAny_bind (wpAny_callSpecial?_slot (name := Str.ofString "__setitem__") hl.typeIs slot_list_setitem
    (wpAny_call_entry slot_list_setitem hl.typeIs entry_list_setitem ?_ (args_list_setitem _ _ _)))
  show wpAny _ _ (Builtin.List.listSubscript? (.ref sl) >>= _) _ _ s
  refine wpAny_bind ?_
  unfold Builtin.List.listSubscript?
  refine wpAny_bind (wpAny_specialOf hTs slice_no_index ?_)
  simp only [Option.isNone_none, if_true]
  refine wpAny_pure ?_
  show wpAny _ _ (typeOf (.ref sl) >>= _) _ _ s
  refine wpAny_bind (wpAny_typeOf hTs ?_)
  first
    | rw [if_neg (by decide)]
    | refine PySem.W.KFB.if_not (by decide) ?_
  rw [listSliceParts_eq]
  refine wpAny_bind (wpAny_bind (wpAny_field hos hds (x := .none) rfl (wpAny_bind (wpAny_listPart .none ?_))))
  rw [if_neg hstep]
  refine wpAny_bind (wpAny_field hos hds (x := vl) rfl (wpAny_bind (wpAny_listPart pl ?_)))
  refine wpAny_bind (wpAny_field hos hds (x := vu) rfl (wpAny_bind (wpAny_listPart pu (wpAny_pure ?_))))
  first
    | simp only [hsame, Bool.false_eq_true, if_false]
    | refine PySem.W.KFB.if_not hsame ?_
    | (dsimp only
       rw [if_neg (by rw [hsame]; exact Bool.false_ne_true)])
  refine wpAny_bind (m := Builtin.List.listAllItems (.ref b) "must assign iterable to extended slice") ?_
  unfold Builtin.List.listAllItems
  refine wpAny_bind (wpAny_typeOf hb.typeIs ?_)
  first
    | refine PySem.W.KFB.if_so (by decide) ?_
    | rw [if_pos (by decide)]
    | simp only [beq_self_eq_true, Bool.true_or, if_true]
  unfold Builtin.List.listItems
  refine wpAny_bind (wpAny_seqItems e2 rfl (wpAny_pure ?_))
  refine wpAny_bind (wpAny_bind (wpAny_seqItems e rfl (wpAny_pure ?_)))
  refine wpAny_bind (wpAny_of_eq ((sliceIndices_raw none none none items.size (by simp)).trans (congrArg (pure : Int × Int × Int → Sem (Int × Int × Int)) (bounds_all items.size))) ?_)
  show wpAny _ _ (if ((1 : Int) == 1) = true then _ else _) _ _ s
  rw [if_pos (by decide)]
  refine wpAny_bind (wpAny_rule ?_)
  first
    | simp only [notLongL hsz, Bool.false_eq_true, if_false]
    | refine PySem.W.KFB.if_not (notLongL hsz) ?_
  first | refine wpAny_bind (wpAny_pure ?_) | skip
  show wpAny _ _ (updateSeq l (fun xs => xs.extract 0 ((0 : Nat) : Int).toNat ++ new ++ xs.extract (max ((0 : Nat) : Int) ((items.size : Nat) : Int)).toNat xs.size) >>= _) _ _ s
  rw [hmax, Int.toNat_natCast]
  refine wpAny_bind (wpAny_updateSeq (hz := Nat.le_trans (Nat.le_add_right _ _) hsz) (_hz' := hz') e rfl ?_)
  refine wpAny_bind (wpAny_letGo ?_)
  first
    | exact wpAny_bind (wpAny_pure (wpAny_pure ⟨.none, rfl, wpAny_pure h⟩))
    | exact wpAny_pure ⟨.none, rfl, wpAny_pure h⟩
end
section
variable {X : Cx} {o e : Expr} {to : TE} {p2 pos : Pos}
/-- o[:] = v, both lists -/
def gAll (to : TE) : TG := fun v σ H QG => to σ H fun x H1 => ∃ a b xs ys, x = .ref a ∧ v = .ref b ∧ a ≠ b ∧ H1 a = some (.lst xs) ∧ H1 b = some (.lst ys) ∧ xs.length + ys.length ≤ sizeLine ∧ QG σ (upd H1 a (.lst ys))
theorem set_all {pins : List (Addr × Obj)} {s : Shared} {σ : L2.St} {H : Hp} {l b sl : Addr} {xs ys : List V} {vl vu : Value} {Q : Unit → Shared → Prop} (I : Inv X pins σ H s)
    (hH : H l = some (.lst xs)) (hB : H b = some (.lst ys)) (hne : l ≠ b) (hs : s.heap.IsSliceOf sl vl vu .none) (pl : IsPart vl none) (pu : IsPart vu none)
    (hz : xs.length + ys.length ≤ sizeLine) (h : ∀ s', Inv X pins σ (upd H l (.lst ys)) s' → Q () s') :
    wpAny (model X.prog X.w) X.A (setItem (.ref l) (.ref sl) (.ref b)) Q X.xe s := by
  obtain ⟨z, its, n, r, hl, e⟩ := I.lstM hH
  obtain ⟨z2, its2, n2, r2, hl2, e2⟩ := I.lstM hB
  refine setItem_all e e2 hne hs pl pu (by rw [List.size_toArray, List.size_toArray]; omega) (h _ ?_)
  refine I.lset (its' := its2) (t' := s.toks) hH e ?_ r2 (by omega)
  simp
theorem pg_all (ho : PE X o to)
    (ha0 : ∀ v, assign (.Subscript o (.Slice none none none p2) pos) X.env v = (do
      let ov ← holding [v] (eval o X.env)
      let iv ← holding [v, ov] (eval (.Slice none none none p2) X.env)
      standAt pos
      holding [v, ov, iv] (setItem ov iv v)
      release [iv, v, ov] []) := by intro _; rfl) : PG X (.Subscript o (.Slice none none none p2) pos) (gAll to) := by
  refine ⟨fun pins s σ H v u Q I r h => ?_⟩
  rw [ha0]
  refine wpAny_bind (wpAny_holding (thn (ho.run pins s σ H _ I h) fun ov s1 ⟨x, H1, I1, r1, q1⟩ => ?_))
  obtain ⟨a, b, xs, ys, rfl, rfl, hne, ha, hb, hz, q⟩ := q1
  cases r1
  cases r
  refine wpAny_bind (wpAny_holding ?_)
  refine wpAny_Slice ?_
  rw [evalPart_none]
  refine wpAny_pure ?_
  refine wpAny_pure ?_
  refine wpAny_pure ?_
  have I4 : Inv X pins σ H1 { s1 with heap := s1.heap.push { cls := .type "slice", data := .fields #[.none, .none, .none] } } := I1.kept (t' := s1.toks) fun b ob q => Heap.get?_push_of_some _ q
  refine wpAny_bind (wpAny_standAt (wpAny_bind (wpAny_holding ?_)))
  refine set_all I4 ha hb hne (Heap.IsSliceOf.new ..) .none .none hz fun s' I5 => ?_
  exact wpAny_release ⟨σ, _, I5, q⟩
def rDivmod : List V → Hp → VK → Prop := fun xs H Q => ∃ i j, xs = [.int i, .int j] ∧ CDivW i j ∧ ∀ p, H p = none → Q (.ref p) (upd H p (.tup [.int (i / j), .int (i % j)]))
theorem call_dmX : CallR X (.builtin "divmod") rDivmod := by
  intro pins s σ H xs us Q I r h
  obtain ⟨i, j, rfl, hc, q⟩ := h
  obtain ⟨u, u2, rfl, ⟨t, rfl⟩, ⟨t2, rfl⟩⟩ := vals2 r
  have pos : 0 < j := hc.1
  have new := I.hok.fresh (Nat.le_refl s.heap.objs.size)
  refine divmod_int (by omega) ?_ (.inl (PyProof.noPylong_of_log2 hc.2))
  rw [Int.fdiv_eq_ediv_of_nonneg i (by omega), Int.fmod_eq_emod_of_nonneg i (by omega)]
  refine ⟨.ref s.heap.objs.size, _, ?_, rfl, q _ new⟩
  refine I.laid (fun b o e => Heap.get?_push_of_some _ e) (Nat.le_refl _) ⟨?_, [.int (i / j) s.toks, .int (i % j) (s.toks + 1)], .cons ⟨_, rfl⟩ (.cons ⟨_, rfl⟩ .nil), ?_⟩
  · exact Evl.sz_of (by simp)
  · exact ⟨_, Heap.get?_push_size s.heap rfl, rfl, 0, rfl⟩
theorem x_gall {σ : L2.St} {H : Hp} {v : V} {QG : L2.St → Hp → Prop} : gAll to v σ H QG = to σ H fun x H1 => ∃ a b xs ys, x = .ref a ∧ v = .ref b ∧ a ≠ b ∧ H1 a = some (.lst xs) ∧ H1 b = some (.lst ys) ∧ xs.length + ys.length ≤ sizeLine ∧ QG σ (upd H1 a (.lst ys)) := rfl
end
end BC

set_option Elab.async false
set_option linter.all false
set_option maxRecDepth 100000
set_option maxHeartbeats 4000000
/-! comprehensions that change what stands, or whose values are chosen as they come -/
namespace BC
open PySem PySem.Spec PyProof.Rows L2 Evl
section
variable {K : PySem.W.Frag} {σ : L2.St} {H1 : Hp} {g : TG} {te : TE} {vs : List Nat} {Dl : Addr} {Q : VK}
theorem lc_rngE {lo : Int} {n : Nat} (Pv : Nat → Hp → Prop) (h0 : Pv 0 (upd H1 Dl (.lst [])))
    (hs : ∀ i H, i < n → Pv i H → g (.int (lo + i)) (wipe σ vs) H fun σ2 H2 => wipe σ2 vs = wipe σ vs ∧ te σ2 H2 fun y H4 => ∃ acc, H4 Dl = some (.lst acc) ∧ acc.length < sizeLine ∧ Pv (i + 1) (upd H4 Dl (.lst (acc ++ [y]))))
    (hd : ∀ H, Pv n H → Q (.ref Dl) H) : LcG (Itr lo n) g tYes te vs σ Dl H1 Q := by
  refine lc_g n Pv h0 (fun H h => Nat.le_refl _) (fun i H hi h => hi) (fun i H x H' hi h y => ?_) hd
  obtain ⟨rfl, rfl⟩ := y
  have q := hs i _ hi h
  exact q
theorem lc_listE {a : Addr} {xs : List V} (Pv : Nat → Hp → Prop) (h0 : Pv 0 (upd H1 Dl (.lst []))) (hl : ∀ i H, i ≤ xs.length → Pv i H → SqL K H a xs)
    (hs : ∀ i x H, xs[i]? = some x → Pv i H → g x (wipe σ vs) H fun σ2 H2 => wipe σ2 vs = wipe σ vs ∧ te σ2 H2 fun y H4 => ∃ acc, H4 Dl = some (.lst acc) ∧ acc.length < sizeLine ∧ Pv (i + 1) (upd H4 Dl (.lst (acc ++ [y]))))
    (hd : ∀ H, Pv xs.length H → Q (.ref Dl) H) : LcG (Itl K a) g tYes te vs σ Dl H1 Q := by
  refine lc_g xs.length Pv h0 (fun H h => ⟨xs, hl _ H (Nat.le_refl _) h, Nat.le_refl _⟩) (fun i H hi h => ⟨xs, xs[i], hl i H (by omega) h, List.getElem?_eq_getElem hi⟩) (fun i H x H' hi h y => ?_) hd
  obtain ⟨rfl, hf⟩ := y
  exact hs i x _ (hf xs (hl i _ (by omega) h)) h
end
/-- a fourfold tuple unpacked -/
theorem g_four {K : PySem.W.Frag} {σ : L2.St} {H : Hp} {i j l m : Nat} {T : Addr} {x y z u : V} {QG : L2.St → Hp → Prop} (h : H T = some (.tup [x, y, z, u])) (q : QG ((((σ.set i (some x)).set j (some y)).set l (some z)).set m (some u)) H) : gTup K 4 (gCons (gName i) (gCons (gName j) (gCons (gName l) (gCons (gName m) gNil)))) (.ref T) σ H QG :=
  ⟨T, [x, y, z, u], rfl, .inl (.inl h), rfl, x, [y, z, u], rfl, y, [z, u], rfl, z, [u], rfl, u, [], rfl, rfl, q⟩
theorem revL {H : Hp} {Q : VK} {p : Addr} {xs : List V} (h : H p = some (.lst xs)) (q : Q .non (upd H p (.lst xs.reverse))) : rReverse (.ref p) [] H Q := ⟨p, xs, rfl, rfl, h, q⟩
theorem Sh.mono {n m : Nat} {d : PyData} (h : Sh n d) (e : n ≤ m) : Sh m d := by
  induction h generalizing m with
  | non n => exact .non m
  | bl n b => exact .bl m b
  | int n i => exact .int m i
  | str n x => exact .str m x
  | @lst n ds hl h ih =>
    cases m with
    | zero => omega
    | succ m => exact .lst hl fun d hd => ih d hd (by omega)
  | @tup n ds hl h ih =>
    cases m with
    | zero => omega
    | succ m => exact .tup hl fun d hd => ih d hd (by omega)
end BC

set_option Elab.async false
set_option linter.all false
set_option maxRecDepth 100000
set_option maxHeartbeats 4000000
/-! visits and their trails, lists of numbers, their repr -/
namespace BC
open PySem PySem.Spec PyProof.Rows L2 Evl
/-! ### data whose repr is short -/
structure Tm (d : PyData) : Prop where
  s : d.showable = true
  n : d.hasDict = false
  l : d.leavesShort 13 = true
theorem Tm.int {i : Int} (h : i.natAbs < 10 ^ 12) : Tm (.int i) := ⟨by
  show decide (i.natAbs.log2 < 1920) = true
  refine decide_eq_true ?_
  by_cases z : i.natAbs = 0
  · rw [z]; decide
  · exact (Nat.log2_lt z).mpr (Nat.lt_of_lt_of_le h (by decide +kernel)), rfl, by
  show decide (_ ≤ 13) = true
  exact decide_eq_true (PyData.shown_int_le h)⟩
theorem Tm.all {ds : List PyData} (h : ∀ d ∈ ds, Tm d) : PyData.showableAll ds = true ∧ PyData.hasDictAll ds = false ∧ PyData.leavesShortAll 13 ds = true := by
  induction ds with
  | nil => exact ⟨rfl, rfl, rfl⟩
  | cons d ds ih =>
    have a := h d List.mem_cons_self
    obtain ⟨b1, b2, b3⟩ := ih fun e m => h e (List.mem_cons_of_mem _ m)
    refine ⟨?_, ?_, ?_⟩
    · show (d.showable && _) = true
      rw [a.s, b1]; rfl
    · show (d.hasDict || _) = false
      rw [a.n, b2]; rfl
    · show (d.leavesShort 13 && _) = true
      rw [a.l, b3]; rfl
theorem Tm.list {ds : List PyData} (h : ∀ d ∈ ds, Tm d) : Tm (.list ds) := ⟨by simp only [PyData.showable]; exact (Tm.all h).1, by simp only [PyData.hasDict]; exact (Tm.all h).2.1, by simp only [PyData.leavesShort]; exact (Tm.all h).2.2⟩
theorem Tm.tuple {ds : List PyData} (h : ∀ d ∈ ds, Tm d) : Tm (.tuple ds) := ⟨by simp only [PyData.showable]; exact (Tm.all h).1, by simp only [PyData.hasDict]; exact (Tm.all h).2.1, by simp only [PyData.leavesShort]; exact (Tm.all h).2.2⟩
theorem wt_int {i : Int} (h : i.natAbs < 2 ^ 40) : (PyData.int i).weight ≤ 40 := by
  simp only [PyData.weight]
  split
  · omega
  · next z =>
    have z0 : i.natAbs ≠ 0 := fun e => z (by rw [Int.natAbs_eq_zero.mp e]; rfl)
    have := (Nat.log2_lt z0).mpr h
    omega
theorem wt_all {ds : List PyData} {n : Nat} (h : ∀ d ∈ ds, d.weight ≤ n) : PyData.weightAll ds ≤ (n + 1) * ds.length := by
  induction ds with
  | nil => simp [PyData.weightAll]
  | cons d ds ih =>
    have a := h d List.mem_cons_self
    have b := ih fun e m => h e (List.mem_cons_of_mem _ m)
    simp only [PyData.weightAll, List.length_cons, Nat.mul_add]
    omega
theorem dep_all {ds : List PyData} {n : Nat} (h : ∀ d ∈ ds, d.depth ≤ n) : PyData.depthAll ds ≤ n := by
  induction ds with
  | nil => simp [PyData.depthAll]
  | cons d ds ih =>
    have a := h d List.mem_cons_self
    have b := ih fun e m => h e (List.mem_cons_of_mem _ m)
    simp only [PyData.depthAll]
    omega
section
variable {K : PySem.W.Frag} {H : Hp} {Q : VK} {a : Addr}
theorem reprX {d : PyData} (h : Dp K H (.ref a) d) (t : Tm d) (dp : d.depth ≤ 60) (wt : d.weight ≤ 2 ^ 20) (q : Q (.str d.shown) H) : rRepr K [.ref a] H Q :=
  ⟨a, d, rfl, h, t.s, dp, t.n, PyData.shown_fits (B := 13) (by decide) (by decide) t.l wt, q⟩
/-- what repr of a list of numbers says -/
def shInts (ns : List Int) : Str := (PyData.list (ns.map PyData.int)).shown
theorem reprInts {ns : List Int} (h : SqL K H a (ns.map V.int)) (hs : ∀ n ∈ ns, n.natAbs < 10 ^ 12) (hl : ns.length ≤ 20000) (q : Q (.str (shInts ns)) H) : rRepr K [.ref a] H Q := by
  refine reprX (.lst h (dp_ints ns)) (.list fun d m => ?_) ?_ ?_ q
  · obtain ⟨n, hn, rfl⟩ := List.mem_map.mp m
    exact .int (hs n hn)
  · simp only [PyData.depth]
    have := dep_all (ds := ns.map PyData.int) (n := 0) fun d m => by
      obtain ⟨n, hn, rfl⟩ := List.mem_map.mp m
      simp [PyData.depth]
    omega
  · simp only [PyData.weight]
    have := wt_all (ds := ns.map PyData.int) (n := 40) fun d m => by
      obtain ⟨n, hn, rfl⟩ := List.mem_map.mp m
      exact wt_int (Nat.lt_of_lt_of_le (hs n hn) (by decide +kernel))
    rw [List.length_map] at this
    omega
/-! ### in, index, a part of a list of numbers -/
theorem flat_ints (ns : List Int) : (ns.map V.int).all flatV = true := by
  rw [List.all_eq_true]
  intro x hx
  obtain ⟨n, _, rfl⟩ := List.mem_map.mp hx
  rfl
theorem inV_ints (p : Int) (ns : List Int) : inV (.int p) (ns.map V.int) = decide (p ∈ ns) := by
  unfold inV
  rw [List.any_map]
  by_cases h : p ∈ ns
  · rw [decide_eq_true h, List.any_eq_true]
    exact ⟨p, h, by simp [eqV]⟩
  · rw [decide_eq_false h, List.any_eq_false]
    intro x hx
    have : x ≠ p := fun e => h (e ▸ hx)
    simp [eqV, this]
theorem inL {p : Int} {ns : List Int} (h : SqL K H a (ns.map V.int)) (q : Q (.bl (decide (p ∈ ns))) H) : rIn K false (.int p) (.ref a) H Q :=
  ⟨a, _, rfl, .inl h, rfl, flat_ints ns, by rw [inV_ints]; exact q⟩
theorem ninL {p : Int} {ns : List Int} (h : SqL K H a (ns.map V.int)) (q : Q (.bl (!decide (p ∈ ns))) H) : rIn K true (.int p) (.ref a) H Q :=
  ⟨a, _, rfl, .inl h, rfl, flat_ints ns, by rw [inV_ints]; exact q⟩
theorem idxL {p : Int} {ns : List Int} (h : SqL K H a (ns.map V.int)) (hp : p ∈ ns) (q : Q (.int (ns.idxOf p : Nat)) H) : rIndex K (.ref a) [.int p] H Q := by
  have hl := List.idxOf_lt_length_of_mem hp
  refine ⟨a, _, _, ns.idxOf p, .int p, rfl, rfl, h, rfl, flat_ints ns, ?_, by simp [eqV], fun m z hm hz => ?_, q⟩
  · rw [List.getElem?_map, List.getElem?_eq_getElem hl, List.getElem_idxOf hl]
    rfl
  · rw [List.getElem?_map] at hz
    have hml : m < ns.length := by omega
    rw [List.getElem?_eq_getElem hml] at hz
    cases hz
    have ne : ns[m] ≠ p := fun e => by
      have := List.not_of_lt_findIdx (p := fun x => x == p) (xs := ns) hm
      simp [e] at this
    simp [eqV, ne]
/-- numbers that are kept -/
theorem kept_ints (n : Nat) (k : Nat → Bool) (f : Nat → Int) : ∃ fr : List Int, kept n k (fun i => V.int (f i)) = fr.map V.int ∧ (∀ x ∈ fr, ∃ i, i < n ∧ k i = true ∧ x = f i) ∧ (fr = [] → ∀ i, i < n → k i = false) := by
  induction n with
  | zero => exact ⟨[], rfl, fun x h => (List.not_mem_nil h).elim, fun _ i h => by omega⟩
  | succ n ih =>
    obtain ⟨fr, h1, h2, h3⟩ := ih
    cases c : k n with
    | true =>
      refine ⟨fr ++ [f n], by rw [kept_yes c, h1, List.map_append]; rfl, fun x h => ?_, fun e => by simp at e⟩
      rcases List.mem_append.mp h with h | h
      · obtain ⟨i, a, b⟩ := h2 x h
        exact ⟨i, by omega, b⟩
      · exact ⟨n, by omega, c, List.mem_singleton.mp h⟩
    | false =>
      refine ⟨fr, by rw [kept_no c, h1], fun x h => ?_, fun e i hi => ?_⟩
      · obtain ⟨i, a, b⟩ := h2 x h
        exact ⟨i, by omega, b⟩
      · by_cases q : i = n
        · rw [q]; exact c
        · exact h3 e i (by omega)
theorem rgV_ints (a b : Int) : rgV a b = ((List.range (b - a).toNat).map fun i => a + ((i : Nat) : Int)).map V.int := by
  unfold rgV
  rw [List.map_map]
  rfl
theorem shp_ints (ns : List Int) : SeqAt.shaped (.list (ns.map PyData.int)) = true := by
  have h1 : ∀ ns : List Int, PyData.canLayAll0 (ns.map PyData.int) = true := fun ns => by
    induction ns with
    | nil => simp [PyData.canLayAll0]
    | cons n ns ih => simp [PyData.canLayAll0, PyData.canLay0, ih]
  have h2 := dep_all (ds := ns.map PyData.int) (n := 0) fun d m => by
      obtain ⟨n, hn, rfl⟩ := List.mem_map.mp m
      simp [PyData.depth]
  show (PyData.canLay0 _ && decide (PyData.depth _ ≤ 64)) = true
  rw [Bool.and_eq_true]
  refine ⟨?_, decide_eq_true ?_⟩
  · simp only [PyData.canLay0]; exact h1 ns
  · simp only [PyData.depth]; omega
theorem eqv_ints : ∀ ns ms : List Int, PyData.eqv (.list (ns.map PyData.int)) (.list (ms.map PyData.int)) = decide (ns = ms) := fun ns ms => by
  simp only [PyData.eqv]
  induction ns generalizing ms with
  | nil => cases ms <;> simp [PyData.eqvAll]
  | cons n ns ih =>
    cases ms with
    | nil => simp [PyData.eqvAll]
    | cons m ms =>
      simp only [List.map_cons, PyData.eqvAll, PyData.eqv, ih]
      by_cases h : n = m
      · subst h; simp
      · simp [h]
theorem eqInts {b : Addr} {ns ms : List Int} (h : SqL K H a (ns.map V.int)) (g : SqL K H b (ms.map V.int)) (q : Q (.bl (decide (ns = ms))) H) : rEqD K (.ref a) (.ref b) H Q :=
  ⟨_, _, .lst h (dp_ints ns), .lst g (dp_ints ms), shp_ints ns, shp_ints ms, by rw [eqv_ints]; exact q⟩
theorem neInts {b : Addr} {ns ms : List Int} (h : SqL K H a (ns.map V.int)) (g : SqL K H b (ms.map V.int)) (q : Q (.bl (!decide (ns = ms))) H) : rNeD K (.ref a) (.ref b) H Q :=
  ⟨_, _, .lst h (dp_ints ns), .lst g (dp_ints ms), shp_ints ns, shp_ints ms, by rw [eqv_ints]; exact q⟩
theorem pickI {ns : List Int} {r : Int} (h0 : 0 ≤ r) (h1 : r < ns.length) : ∃ n, n ∈ ns ∧ atI (ns.map V.int) r = some (.int n) := by
  obtain ⟨v, hv, e⟩ := pick (xs := ns.map V.int) h0 (by rw [List.length_map]; exact h1)
  obtain ⟨n, hn, rfl⟩ := List.mem_map.mp hv
  exact ⟨n, hn, e⟩
theorem cut_to (xs : List V) {i : Int} {j : Nat} (e : i = (j : Int)) (h : j ≤ xs.length) : cutV xs none (some i) = xs.take j := by
  subst e
  unfold cutV
  have e1 : HT.sIx xs.length 0 none = 0 := rfl
  rw [HT.sIx_nat, e1, List.drop_zero, Nat.sub_zero, Nat.min_eq_left h]
theorem slL {lo hi : Option Int} {xs : List V} (h : SqL K H a xs) (q : ∀ p, H p = none → Q (.ref p) (upd H p (.lst (cutV xs lo hi)))) : rSlL K (.ref a) lo hi H Q := ⟨a, xs, rfl, h, q⟩
theorem tyLL {xs : List V} (h : SqL K H a xs) : tyV K "list" (.ref a) H := Or.inl ⟨rfl, _, h⟩
end
end BC
namespace TR
/-! ### trails -/
def Pg (w : Int) (l : List Int) : Prop := ∀ x ∈ l, 0 ≤ x ∧ x < w
def vis (t : List Int) (p : Int) : List Int := if p ∈ t then t.take (t.idxOf p + 1) else t ++ [p]
def trl (row : List Int) : List Int := row.foldl vis []
/-- the lengths of the trails -/
def lens (row : List Int) : List Int := (List.range row.length).map fun i => ((trl (row.take (i + 1))).length : Int)
theorem vis_mem {t : List Int} {p x : Int} (h : x ∈ vis t p) : x ∈ t ∨ x = p := by
  unfold vis at h
  split at h
  · exact .inl (List.mem_of_mem_take h)
  · simpa using h
theorem vis_nodup {t : List Int} {p : Int} (h : t.Nodup) : (vis t p).Nodup := by
  unfold vis
  split
  · exact h.sublist (List.take_sublist _ _)
  · next n =>
    rw [List.nodup_append]
    exact ⟨h, List.nodup_cons.mpr ⟨List.not_mem_nil, List.nodup_nil⟩, fun a ha b hb e => n (by simp at hb; rw [← hb, ← e]; exact ha)⟩
theorem vis_pos (t : List Int) (p : Int) : 1 ≤ (vis t p).length := by
  unfold vis
  split
  · next h =>
    have := List.idxOf_lt_length_of_mem h
    rw [List.length_take]; omega
  · rw [List.length_append, List.length_singleton]; omega
theorem vis_le (t : List Int) (p : Int) : (vis t p).length ≤ t.length + 1 := by
  unfold vis
  split
  · rw [List.length_take]; omega
  · rw [List.length_append, List.length_singleton]; omega
theorem vis_pg {w : Int} {t : List Int} {p : Int} (h : Pg w t) (h0 : 0 ≤ p) (h1 : p < w) : Pg w (vis t p) := fun x hx => by
  rcases vis_mem hx with h2 | rfl
  · exact h x h2
  · exact ⟨h0, h1⟩
theorem trl_snoc {row : List Int} {i : Nat} {p : Int} (h : row[i]? = some p) : trl (row.take (i + 1)) = vis (trl (row.take i)) p := by
  unfold trl
  rw [List.take_add_one, h, List.foldl_append]
  rfl
theorem fold_ok {w : Int} : ∀ {row t : List Int}, Pg w row → Pg w t → t.Nodup → Pg w (row.foldl vis t) ∧ (row.foldl vis t).Nodup
  | [], _, _, h2, h3 => ⟨h2, h3⟩
  | p :: row, t, h1, h2, h3 => fold_ok (row := row) (t := vis t p) (fun x hx => h1 x (List.mem_cons_of_mem _ hx)) (vis_pg h2 (h1 p List.mem_cons_self).1 (h1 p List.mem_cons_self).2) (vis_nodup h3)
theorem Pg.take {w : Int} {l : List Int} (h : Pg w l) (n : Nat) : Pg w (l.take n) := fun x hx => h x (List.mem_of_mem_take hx)
theorem Pg.mono {w v : Int} {l : List Int} (h : Pg w l) (e : w ≤ v) : Pg v l := fun x hx => ⟨(h x hx).1, by have := (h x hx).2; omega⟩
theorem Pg.at {w : Int} {l : List Int} (h : Pg w l) {i : Nat} {p : Int} (e : l[i]? = some p) : 0 ≤ p ∧ p < w := h p (List.mem_of_getElem? e)
theorem pg_nil (w : Int) : Pg w [] := fun _ m => (List.not_mem_nil m).elim
theorem trl_pg {w : Int} {row : List Int} (h : Pg w row) : Pg w (trl row) := (fold_ok h (pg_nil w) List.nodup_nil).1
theorem trl_nodup {w : Int} {row : List Int} (h : Pg w row) : (trl row).Nodup := (fold_ok h (pg_nil w) List.nodup_nil).2
/-- so many different pages at most -/
theorem nodup_len : ∀ (n : Nat) {l : List Int}, l.Nodup → Pg n l → l.length ≤ n
  | 0, [], _, _ => Nat.le_refl _
  | 0, x :: l, _, h => by have := h x List.mem_cons_self; omega
  | n + 1, l, h1, h2 => by
    by_cases m : ((n : Nat) : Int) ∈ l
    · have h3 := nodup_len n (l := l.erase (n : Int)) (h1.erase _) (fun x hx => by
        have a := h2 x (List.mem_of_mem_erase hx)
        have b : x ≠ (n : Int) := fun e => by
          rw [h1.mem_erase_iff] at hx
          exact hx.1 e
        omega)
      have := List.length_erase_of_mem m
      omega
    · have h3 := nodup_len n h1 (fun x hx => by
        have a := h2 x hx
        have b : x ≠ (n : Int) := fun e => m (e ▸ hx)
        omega)
      omega
theorem trl_len {n : Nat} {row : List Int} (h : Pg n row) : (trl row).length ≤ n := nodup_len n (trl_nodup h) (trl_pg h)
theorem lens_len (row : List Int) : (lens row).length = row.length := by unfold lens; rw [List.length_map, List.length_range]
theorem lens_at {row : List Int} {i : Nat} (h : i < row.length) : (lens row)[i]? = some ((trl (row.take (i + 1))).length : Int) := by
  unfold lens
  rw [List.getElem?_map, List.getElem?_range h]
  rfl
end TR

set_option Elab.async false
set_option linter.all false
set_option maxRecDepth 100000
set_option maxHeartbeats 4000000
/-! defs with one keyword-only parameter that has a default -/
namespace BC
open PySem PySem.Spec PyProof.Rows L2 Evl
theorem kwd1 {K : PySem.W.Frag} {x qual : Str} {st : Stmt} {f D : Addr} {ps : List Str} {nm : Str} {v : V} {u : Value} {n : Nat} {oc : Value} {od : Option Addr} {doc pm : Value} {an : Option Addr} {cdv ct : Value} {osl : Array (Option Value)}
    (lk : K.lookup f = some ⟨oc, od, .func (PySem.W.fnOf x qual (defArgs st) (defBody st) (defScope st) .none (.ref D) doc pm an cdv ct), osl⟩) (hcd : PySem.W.codeIn K cdv qual = true) (kp : PySem.W.keepIn K (.ref f) = true)
    (hq : PySem.W.nsIn K D nm = some (some u)) (hr : RelV v u) (hn : n + 1 = ps.length)
    (h : ∀ (D : Addr) (doc pm : Value) (an : Option Addr) (cdv ct : Value) (us ks : List Value), us.length = n → ks.length = 1 →
      KwChain D ([nm].zip ks) (bindArgs (PySem.W.fnOf x qual (defArgs st) (defBody st) (defScope st) .none (.ref D) doc pm an cdv ct) ⟨us, []⟩) (ps.zip (us ++ ks))) :
    ∃ ds, Vals [v] ds ∧ Binds K (PySem.W.fnOf x qual (defArgs st) (defBody st) (defScope st) .none (.ref D) doc pm an cdv ct) ps ds := by
  have F : FunD K x qual (defArgs st) (defBody st) (defScope st) [] [(nm, v)] f (PySem.W.fnOf x qual (defArgs st) (defBody st) (defScope st) .none (.ref D) doc pm an cdv ct) :=
    ⟨⟨oc, od, _, _, doc, pm, an, cdv, ct, osl, rfl, lk, hcd, .inl ⟨rfl, rfl⟩, .inr ⟨D, rfl, fun q hm => by
      obtain rfl : q = (nm, v) := by simpa using hm
      exact ⟨u, hq, hr⟩⟩⟩, kp⟩
  have z := F.binds0 n (by simp) (by simpa using hn) h
  exact z
/-! ### the bag of draws: a list of three numbers -/
def BagAt (H : Hp) (b : Addr) (c : Nat) : Prop := ∃ x0 x1 x2 : Int, H b = some (.lst [.int x0, .int x1, .int x2]) ∧ 0 ≤ x1 ∧ x1 < 10 ^ 65 ∧ 0 ≤ x2 ∧ x2 ≤ c
theorem BagAt.ex {H H' : Hp} {b : Addr} {c : Nat} (h : BagAt H b c) (e : Ex H H') : BagAt H' b c := by
  obtain ⟨x0, x1, x2, hb, r⟩ := h
  exact ⟨x0, x1, x2, e _ _ hb, r⟩
theorem BagAt.mono {H : Hp} {b : Addr} {c d : Nat} (h : BagAt H b c) (e : c ≤ d) : BagAt H b d := by
  obtain ⟨x0, x1, x2, hb, h1, h2, h3, h4⟩ := h
  exact ⟨x0, x1, x2, hb, h1, h2, h3, by omega⟩
theorem BagAt.some {H : Hp} {b : Addr} {c : Nat} (h : BagAt H b c) : ∃ o, H b = Option.some o := by
  obtain ⟨x0, x1, x2, hb, _⟩ := h
  exact ⟨_, hb⟩
theorem BagAt.apart {H : Hp} {b z : Addr} {c : Nat} (h : BagAt H b c) (nz : H z = none) : z ≠ b := fun e => by
  obtain ⟨o, ho⟩ := h.some
  subst e
  rw [ho] at nz
  cases nz
theorem BagAt.off {H : Hp} {b z : Addr} {c : Nat} {o : HO} (h : BagAt H b c) (nz : z ≠ b) : BagAt (upd H z o) b c := by
  obtain ⟨x0, x1, x2, hb, r⟩ := h
  exact ⟨x0, x1, x2, by rw [upd_ne (Ne.symm nz)]; exact hb, r⟩
theorem BagAt.ne {H : Hp} {b z : Addr} {c : Nat} (h : BagAt H b c) (nb : H z = none) : b ≠ z := fun e => h.apart nb e.symm
/-- the greatest number of ways that is drawn from -/
def BIG : Int := 2 ^ 2000
theorem big_of {m : Int} (h : m ≤ 100000) : m ≤ BIG := Int.le_trans h (by decide +kernel)
theorem big_lt {m : Int} (h : 0 < m) (h2 : m ≤ BIG) : m.natAbs < 2 ^ 2001 := by
  have a : m.natAbs ≤ BIG.natAbs := by omega
  exact Nat.lt_of_le_of_lt a (by decide +kernel)
def spDraw : Sp := fun vs H Q _ => ∃ (b : Addr) (m : Int) (c : Nat), vs = [.ref b, .int m] ∧ 0 < m ∧ m ≤ BIG ∧ BagAt H b c ∧ c ≤ 1000000 ∧ ∀ r H', 0 ≤ r → r < m → Fx b H H' → BagAt H' b (c + 1) → Q (.int r) H'
/-! ### lists of lists of numbers, shown -/
def dLL (ls : List (List Int)) : PyData := .list (ls.map fun l => .list (l.map PyData.int))
theorem tm_ints {l : List Int} (h : ∀ x ∈ l, x.natAbs < 10 ^ 12) : Tm (.list (l.map PyData.int)) := .list fun d m => by
  obtain ⟨x, hx, rfl⟩ := List.mem_map.mp m
  exact .int (h x hx)
theorem wt_ints {l : List Int} (h : ∀ x ∈ l, x.natAbs < 10 ^ 12) : (PyData.list (l.map PyData.int)).weight ≤ 41 * l.length := by
  simp only [PyData.weight]
  have := wt_all (ds := l.map PyData.int) (n := 40) fun d m => by
      obtain ⟨n, hn, rfl⟩ := List.mem_map.mp m
      exact wt_int (Nat.lt_of_lt_of_le (h n hn) (by decide +kernel))
  rw [List.length_map] at this
  exact this
theorem dp_ll {K : PySem.W.Frag} {H : Hp} {ps : List Addr} : ∀ {ls : List (List Int)}, ps.length = ls.length → (∀ (i : Nat) (p : Addr) (l : List Int), ps[i]? = some p → ls[i]? = some l → SqL K H p (l.map V.int)) → DpAll K H (ps.map V.ref) (ls.map fun l => PyData.list (l.map PyData.int)) := fun {ls} => by
  induction ps generalizing ls with
  | nil =>
    intro h _
    cases ls with
    | nil => exact .nil
    | cons l ls => simp at h
  | cons p ps ih =>
    intro h g
    cases ls with
    | nil => simp at h
    | cons l ls => exact .cons (.lst (g 0 p l rfl rfl) (dp_ints l)) (ih (by simpa using h) fun i q m a b => g (i + 1) q m (by rw [List.getElem?_cons_succ]; exact a) (by rw [List.getElem?_cons_succ]; exact b))
theorem reprLL {K : PySem.W.Frag} {H : Hp} {Q : VK} {a : Addr} {ls : List (List Int)} {n : Nat} (h : Dp K H (.ref a) (dLL ls)) (hv : ∀ l ∈ ls, ∀ x ∈ l, x.natAbs < 10 ^ 12) (hl : ∀ l ∈ ls, l.length ≤ n) (hz : (41 * n + 1) * ls.length ≤ 2 ^ 20) (q : Q (.str (dLL ls).shown) H) : rRepr K [.ref a] H Q := by
  refine reprX h (.list fun d m => ?_) ?_ ?_ q
  · obtain ⟨l, hm, rfl⟩ := List.mem_map.mp m
    exact tm_ints (hv l hm)
  · unfold dLL
    simp only [PyData.depth]
    have := dep_all (ds := ls.map fun l => PyData.list (l.map PyData.int)) (n := 1) fun d m => by
      obtain ⟨l, hm, rfl⟩ := List.mem_map.mp m
      simp only [PyData.depth]
      have := dep_all (ds := l.map PyData.int) (n := 0) fun d m => by
        obtain ⟨x, hx, rfl⟩ := List.mem_map.mp m
        simp [PyData.depth]
      omega
    omega
  · unfold dLL
    simp only [PyData.weight]
    have := wt_all (ds := ls.map fun l => PyData.list (l.map PyData.int)) (n := 41 * n) fun d m => by
      obtain ⟨l, hm, rfl⟩ := List.mem_map.mp m
      exact Nat.le_trans (wt_ints (hv l hm)) (Nat.mul_le_mul_left _ (hl l hm))
    rw [List.length_map] at this
    omega
theorem k_lenSet {X : Cx} {K : PySem.W.Frag} {a : Expr} {ta : TE} {p p2 q pos : Pos} (hK : X.K = K) (hg : Gl X "len") (hm : X.mg "len" = none) (hg2 : Gl X "set") (hm2 : X.mg "set" = none) (ha : PE X a ta) (hc : X.calm = true := by rfl)
    (na : starEach [a] X.env = (false, eval a X.env) :: starEach [] X.env := by rfl) : PE X (.Call (.Name "len" p) [.Call (.Name "set" p2) [a] [] q] [] pos) (RZ.tLenSetI K ta) := by subst hK; exact RZ.pe_lenSetI hg hm hg2 hm2 ha hc na
theorem x_lenSet {K : PySem.W.Frag} {ta : TE} {σ : L2.St} {H : Hp} {Q : VK} : RZ.tLenSetI K ta σ H Q = ta σ H fun x H1 => ∃ (l : Addr) (ns : List Int), x = .ref l ∧ SqL K H1 l (ns.map V.int) ∧ ns.Nodup ∧ ns.length ≤ 4000 ∧ Q (.int (ns.length : Nat)) H1 := rfl
end BC

set_option Elab.async false
set_option linter.all false
set_option maxRecDepth 100000
set_option maxHeartbeats 4000000
/-! dicts: readings, loops over keys, keys that are texts of lists of digits -/
namespace BC
open PySem PySem.Spec PyProof.Rows L2 Evl
section
variable {K : PySem.W.Frag} {σ : L2.St} {H : Hp} {Q : VK} {QT : Bool → Hp → Prop} {td ty tv tx : TE} {D : Ends} {g : TG} {tb : TS} {c : TE}
theorem x_dnewK : tDNewK σ H Q = ∀ p, H p = none → Q (.ref p) (upd H p (.dK [])) := rfl
theorem x_dnewT : tDNewT σ H Q = ∀ p, H p = none → Q (.ref p) (upd H p (.dT [])) := rfl
theorem x_dget : tDGet td ty σ H Q = td σ H (fun x H1 => ty σ H1 fun y H2 => ∃ a v, x = .ref a ∧ DGet H2 a y (some v) ∧ Q v H2) := rfl
theorem x_dget1 : tDGet1 td ty σ H Q = td σ H (fun x H1 => ∃ a, x = .ref a ∧ IsD H1 a ∧ ty σ H1 fun y H2 => ∃ o, DGet H2 a y o ∧ Q (o.getD .non) H2) := rfl
theorem x_dget2 : tDGet2 td ty tx σ H Q = td σ H (fun x H1 => ∃ a, x = .ref a ∧ IsD H1 a ∧ ty σ H1 fun y H2 => tx σ H2 fun z H3 => ∃ o, DGet H3 a y o ∧ Q (o.getD z) H3) := rfl
theorem x_din : tDIn ty td σ H Q = ty σ H (fun y H1 => td σ H1 fun x H2 => ∃ a o, x = .ref a ∧ DGet H2 a y o ∧ Q (.bl o.isSome) H2) := rfl
theorem x_dnotin : tDNotIn ty td σ H Q = ty σ H (fun y H1 => td σ H1 fun x H2 => ∃ a o, x = .ref a ∧ DGet H2 a y o ∧ Q (.bl (!o.isSome)) H2) := rfl
theorem x_dput : sDPut td ty tv D σ H = tv σ H (fun v H1 => td σ H1 fun x H2 => ty σ H2 fun y H3 => ∃ a H4, x = .ref a ∧ DPut H3 a y v H4 ∧ D.nx σ H4) := rfl
theorem x_ikeys {R : It → Hp → Prop} : iKeys td σ H R = td σ H (fun x H1 => ∃ d o, x = .ref d ∧ ((∃ kvs, H1 d = some (.frz o (.dK kvs)) ∧ R (Itk d o kvs) H1) ∨ ∃ kvs, H1 d = some (.frz o (.dT kvs)) ∧ R (Itkt d o kvs) H1)) := rfl
/-- the keys of a locked dict -/
theorem lg_keys {d : Addr} {o : Obj} {kvs : List (Key × V)} (Pv : Nat → L2.St → Hp → Prop) (h0 : Pv 0 σ H) (hl : ∀ i σ H, i ≤ kvs.length → Pv i σ H → H d = some (.frz o (.dK kvs)))
    (hs : ∀ i k v σ H, kvs[i]? = some (k, v) → Pv i σ H → g (kV k) σ H fun σ2 H2 => tb { D with nx := Pv (i + 1), ct := Pv (i + 1), bk := D.nx } σ2 H2) (hd : ∀ σ H, Pv kvs.length σ H → D.nx σ H) : LoopG (Itk d o kvs) g tb D σ H := by
  refine ⟨fun i m σ H => m = kvs.length - i ∧ i ≤ kvs.length ∧ Pv i σ H, ⟨kvs.length, by simp, Nat.zero_le _, h0⟩, ?_⟩
  rintro i m σ H ⟨rfl, hi, p⟩
  have q := hl i σ H hi p
  by_cases hlt : i < kvs.length
  · refine .inr ⟨⟨q, hlt⟩, Pv (i + 1), fun σ' H' p' => ⟨kvs.length - (i + 1), by omega, rfl, hlt, p'⟩, fun x H' y => ?_⟩
    obtain ⟨rfl, k, v, e, rfl⟩ := y
    exact hs i k v σ _ e p
  · have e : i = kvs.length := by omega
    subst e
    exact .inl ⟨⟨q, Nat.le_refl _⟩, hd σ H p⟩
end
theorem frz_ex {H H' : Hp} {d : Addr} {u x : HO} (h : H d = some u) (e : Ex (upd H d x) H') : Ex H (upd H' d u) := fun a o ho => by
  by_cases q : a = d
  · subst q
    rw [upd_same]
    rw [h] at ho
    exact ho
  · rw [upd_ne q]
    exact e a o (by rw [upd_ne q]; exact ho)
theorem ex_frz {H H' : Hp} {d a : Addr} {o : HO} {x : HO} (q : a ≠ d) (ho : H a = some o) (e : Ex (upd H d x) H') : H' a = some o := e a o (by rw [upd_ne q]; exact ho)
/-! ### lists of digits, shown -/
def Dg (t : List Int) : Prop := ∀ n ∈ t, 0 ≤ n ∧ n < 10
def digL (cs : List Nat) : List Int := (cs.filter fun c => decide (48 ≤ c) && decide (c < 58)).map fun c : Nat => (c : Int) - 48
theorem digL_append (a b : List Nat) : digL (a ++ b) = digL a ++ digL b := by
  unfold digL
  rw [List.filter_append, List.map_append]
theorem digL_one : ∀ k : Fin 10, digL (Str.ofString (toString ((k.val : Nat) : Int))).cps.toList = [((k.val : Nat) : Int)] := by decide +kernel
theorem digL_int {n : Int} (h0 : 0 ≤ n) (h1 : n < 10) : digL (Str.ofString (toString n)).cps.toList = [n] := by
  have h := digL_one ⟨n.toNat, by omega⟩
  rw [show ((n.toNat : Nat) : Int) = n by omega] at h
  exact h
theorem digL_join : ∀ ns : List Int, Dg ns → digL (Str.join ", " (ns.map fun n => ((toString n : String) : Str))).cps.toList = ns
  | [], _ => by decide +kernel
  | [n], h => by
    obtain ⟨h0, h1⟩ := h n List.mem_cons_self
    exact digL_int h0 h1
  | n :: m :: ns, h => by
    obtain ⟨h0, h1⟩ := h n List.mem_cons_self
    have ih := digL_join (m :: ns) fun x hx => h x (List.mem_cons_of_mem _ hx)
    show digL ((((toString n : String) : Str) ++ ", " ++ Str.join ", " ((m :: ns).map fun n => ((toString n : String) : Str))).cps.toList) = _
    rw [cps_toList_append, cps_toList_append, digL_append, digL_append, ih, digL_int h0 h1, signs_sep]
    rfl
theorem digL_shown {ns : List Int} (h : Dg ns) : digL (shInts ns).cps.toList = ns := by
  unfold shInts
  rw [PyData.shown_list, PyData.shownAll_ints, cps_toList_append, cps_toList_append, digL_append, digL_append, digL_join ns h, signs_lbrack, signs_rbrack]
  show [] ++ ns ++ [] = ns
  simp
theorem shInts_inj {a b : List Int} (ha : Dg a) (hb : Dg b) (e : shInts a = shInts b) : a = b := by
  rw [← digL_shown ha, ← digL_shown hb, e]
/-! ### dicts by such texts -/
section
variable {α : Type} {f : α → V}
def kx (t : List Int) : Key := Sum.inr (shInts t)
theorem kx_inj {a b : List Int} (ha : Dg a) (hb : Dg b) : kx a = kx b ↔ a = b := ⟨fun e => shInts_inj ha hb (Sum.inr.inj e), fun e => by rw [e]⟩
def ren (f : α → V) (L : List (List Int × α)) : List (Key × V) := L.map fun p => (kx p.1, f p.2)
def getA (L : List (List Int × α)) (t : List Int) : Option α := (L.find? fun p => decide (p.1 = t)).map (·.2)
def putA (L : List (List Int × α)) (t : List Int) (a : α) : List (List Int × α) := if (L.any fun p => decide (p.1 = t)) = true then L.map (fun p => if p.1 = t then (p.1, a) else p) else L ++ [(t, a)]
theorem ren_val (t : List Int) (ht : Dg t) : ∀ L : List (List Int × α), (∀ p ∈ L, Dg p.1) → valV (ren f L) (kx t) = (getA L t).map f
  | [], _ => rfl
  | p :: L, h => by
    have ih := ren_val t ht L fun q hq => h q (List.mem_cons_of_mem _ hq)
    have hp := h p List.mem_cons_self
    show valV ((kx p.1, f p.2) :: ren f L) (kx t) = _
    by_cases e : p.1 = t
    · rw [valV_pos (by show kx p.1 = kx t; rw [e])]
      simp [getA, e]
    · rw [valV_neg (by show ¬ kx p.1 = kx t; rw [kx_inj hp ht]; exact e), ih]
      simp [getA, e]
theorem ren_any (t : List Int) (ht : Dg t) : ∀ L : List (List Int × α), (∀ p ∈ L, Dg p.1) → ((ren f L).any fun kv => decide (kv.1 = kx t)) = L.any fun p => decide (p.1 = t)
  | [], _ => rfl
  | p :: L, h => by
    have ih := ren_any t ht L fun q hq => h q (List.mem_cons_of_mem _ hq)
    have hp := h p List.mem_cons_self
    show (decide (kx p.1 = kx t) || (ren f L).any fun kv => decide (kv.1 = kx t)) = _
    rw [ih, List.any_cons]
    congr 1
    exact decide_eq_decide.mpr (kx_inj hp ht)
theorem ren_put (t : List Int) (ht : Dg t) (a : α) (L : List (List Int × α)) (h : ∀ p ∈ L, Dg p.1) : putK (ren f L) (kx t) (f a) = ren f (putA L t a) := by
  unfold putK putA
  rw [ren_any t ht L h]
  by_cases c : (L.any fun p => decide (p.1 = t)) = true
  · rw [if_pos c, if_pos c]
    unfold ren
    rw [List.map_map, List.map_map]
    refine List.map_congr_left fun p hp => ?_
    show (if kx p.1 = kx t then (kx p.1, f a) else (kx p.1, f p.2)) = _
    by_cases e : p.1 = t
    · rw [if_pos (by rw [e])]
      show _ = (kx (if p.1 = t then (p.1, a) else p).1, f (if p.1 = t then (p.1, a) else p).2)
      rw [if_pos e]
    · rw [if_neg (by rw [kx_inj (h p hp) ht]; exact e)]
      show _ = (kx (if p.1 = t then (p.1, a) else p).1, f (if p.1 = t then (p.1, a) else p).2)
      rw [if_neg e]
  · rw [if_neg c, if_neg c]
    unfold ren
    rw [List.map_append]
    rfl
theorem putA_key {L : List (List Int × α)} {t : List Int} {a : α} {p : List Int × α} (h : p ∈ putA L t a) : p.1 = t ∨ ∃ q ∈ L, q.1 = p.1 := by
  unfold putA at h
  split at h
  · obtain ⟨q, hq, rfl⟩ := List.mem_map.mp h
    refine .inr ⟨q, hq, ?_⟩
    split <;> rfl
  · rcases List.mem_append.mp h with h | h
    · exact .inr ⟨p, h, rfl⟩
    · rw [List.mem_singleton.mp h]
      exact .inl rfl
theorem putA_len (L : List (List Int × α)) (t : List Int) (a : α) : (putA L t a).length ≤ L.length + 1 := by
  unfold putA
  split
  · rw [List.length_map]; omega
  · rw [List.length_append, List.length_singleton]; omega
theorem ren_len (L : List (List Int × α)) : (ren f L).length = L.length := by unfold ren; rw [List.length_map]
theorem ren_at {L : List (List Int × α)} {i : Nat} {k : Key} {v : V} (h : (ren f L)[i]? = some (k, v)) : ∃ t a, L[i]? = some (t, a) ∧ k = kx t ∧ v = f a := by
  unfold ren at h
  rw [List.getElem?_map] at h
  cases e : L[i]? with
  | none => rw [e] at h; cases h
  | some p => rw [e] at h; cases h; exact ⟨p.1, p.2, rfl, rfl, rfl⟩
end
end BC
namespace BC
open PySem PySem.Spec PyProof.Rows L2 Evl
section
variable {α : Type} {f : α → V}
theorem putA_nodup {L : List (List Int × α)} {t : List Int} {a : α} (h : (L.map (·.1)).Nodup) : ((putA L t a).map (·.1)).Nodup := by
  unfold putA
  split
  · rw [List.map_map]
    have e : ((fun p : List Int × α => p.1) ∘ fun p : List Int × α => if p.1 = t then (p.1, a) else p) = fun p => p.1 := funext fun p => by
      show (if p.1 = t then (p.1, a) else p).1 = p.1
      split <;> rfl
    rw [e]
    exact h
  · next c =>
    rw [List.map_append, List.nodup_append]
    refine ⟨h, by simp, fun x hx y hy e => ?_⟩
    obtain ⟨p, hp, rfl⟩ := List.mem_map.mp hx
    have hy' : y = t := by simpa using hy
    refine c (List.any_eq_true.mpr ⟨p, hp, decide_eq_true ?_⟩)
    rw [e, hy']
theorem getA_at : ∀ {L : List (List Int × α)} {i : Nat} {t : List Int} {a : α}, (L.map (·.1)).Nodup → L[i]? = some (t, a) → getA L t = some a
  | [], _, _, _, _, h => by simp at h
  | p :: L, 0, t, a, _, h => by
    have : p = (t, a) := by simpa using h
    subst this
    simp [getA]
  | p :: L, i + 1, t, a, nd, h => by
    rw [List.map_cons, List.nodup_cons] at nd
    have h' : L[i]? = some (t, a) := by simpa using h
    have ih := getA_at nd.2 h'
    have ne : p.1 ≠ t := fun e => nd.1 (List.mem_map.mpr ⟨(t, a), List.mem_of_getElem? h', e.symm⟩)
    unfold getA at ih ⊢
    rw [List.find?_cons, decide_eq_false ne]
    exact ih
end
/-- what stands at a text's key, counted -/
theorem ren_get {L : List (List Int × Int)} {t : List Int} (ht : Dg t) (h : ∀ p ∈ L, Dg p.1) : (valV (ren V.int L) (kx t)).getD (.int 0) = .int ((getA L t).getD 0) := by
  rw [ren_val t ht L h]
  cases getA L t <;> rfl
theorem ints_at {ns : List Int} {i : Nat} {v : V} (h : (ns.map V.int)[i]? = some v) : ∃ n, ns[i]? = some n ∧ v = .int n := by
  rw [List.getElem?_map] at h
  cases e : ns[i]? with
  | none => rw [e] at h; cases h
  | some n => rw [e] at h; cases h; exact ⟨n, rfl, rfl⟩
theorem refs_at {ps : List Addr} {i : Nat} {v : V} (h : (ps.map V.ref)[i]? = some v) : ∃ q, ps[i]? = some q ∧ v = .ref q := by
  rw [List.getElem?_map] at h
  cases e : ps[i]? with
  | none => rw [e] at h; cases h
  | some n => rw [e] at h; cases h; exact ⟨n, rfl, rfl⟩
theorem tyS {K : PySem.W.Frag} {H : Hp} {x : Str} : tyV K "str" (.str x) H := rfl
end BC

set_option Elab.async false
set_option linter.all false
set_option maxRecDepth 100000
set_option maxHeartbeats 4000000
/-! sorted(set(xs)) of a list of numbers -/
namespace BC
open PySem PySem.Spec PyProof.Rows L2 Evl RZ
/-- the set that set() starts with -/
abbrev set0 (w : World) : Obj := { cls := .type "set", dict := none, data := .set #[] 0 (.fresh 0 0 (!w.params.followText "set-order")) }
abbrev with0 (w : World) (s : Shared) : Shared := { s with heap := s.heap.push (set0 w) }
section
variable {P : Program} {w : World} {A : Around} {E : Value → Shared → Prop} {s : Shared}
set_option maxHeartbeats 3200000 in
theorem set_of_list {l : Addr} {its : Array Value} (ns : List Int) {Q : Value → Shared → Prop} (hh : A.handled = none) (hl : s.heap.IsList l its) (hit : IntsAre its.toList ns) (hb : ns.length + 1 < scanBound)
    (fin : ∀ (h' : Heap) (tk c : Nat), SetR w h' s.heap.objs.size (fun j => decide (j ∈ ns)) c → c ≤ ns.length → (∀ b o, s.heap.get? b = some o → h'.get? b = some o) → Q (.ref s.heap.objs.size) { s with heap := h', toks := tk }) :
    wpAny (model P w) A (call (.type "set") [.ref l]) Q E s := by
  have many : its.size = ns.length := by rw [← IntsAre.length hit, Array.length_toList]
  obtain ⟨c, tl, hmro⟩ := F.called_set.mro
  have m1 := F.called_set.made
  have m2 := F.called_set.sub
  refine wpAny_call (codeAny_of_tree (wpAny_pure ⟨Code.quiet_builtin _ (by decide +kernel), codeAny_builtin F.entry_type_call ?_⟩))
  rw [Around.under_plain (weight_type_call_type "set" [.ref l] []) rfl]
  have m3 := F.called_set.notType
  have m4 := F.called_set.canCreate
  have m5 := F.typeCall_set_1 (.ref l)
  repeat (any_goals (first | assumption | wp_step))
  refine codeAny_mono (code_set_led1 (.ref l) (E := E) (Q₁ := fun obj s₁ => obj = .ref s.heap.objs.size ∧ s₁ = with0 w s) ⟨rfl, rfl⟩) fun r s₁ hr => ?_
  match r, hr with
  | .error e, hr => exact hr
  | .ok .next, hr => exact hr.elim
  | .ok .brk, hr => exact hr.elim
  | .ok .cont, hr => exact hr.elim
  | .ok (.ret obj), hr =>
    obtain ⟨rfl, rfl⟩ := hr
    have at0 : (s.heap.push (set0 w)).get? s.heap.objs.size = some (set0 w) := Heap.get?_push_size _ rfl
    have ty0 : Shared.TypeIs (with0 w s) (.ref s.heap.objs.size) "set" := ⟨_, at0, rfl⟩
    have i1 := F.called_set.init.lookup
    have i2 := F.called_set.init.bind (.ref s.heap.objs.size)
    repeat (any_goals (first | assumption | wp_step))
    refine codeAny_mono (codeAny_call_builtin (R := wants (fun r s₂ => r = .none ∧ ∃ h' tk c, s₂ = { s with heap := h', toks := tk } ∧ SetR w h' s.heap.objs.size (fun j => decide (j ∈ ns)) c ∧ c ≤ ns.length ∧ (∀ b o, s.heap.get? b = some o → h'.get? b = some o)) E)
      F.called_set.init.plain F.entry_set_init (check_set_init_1 ty0 ?_)) fun r₂ s₂ hr₂ => ?_
    · obtain ⟨⟨oc, od, dt, osl⟩, old, e1, nl, e2⟩ := hl
      obtain rfl : oc = .type "list" := e1
      obtain rfl : dt = .seq its nl := e2
      have pushed := Heap.get?_push_of_some (set0 w) old
      have isl : (s.heap.push (set0 w)).IsList l its := ⟨_, pushed, rfl, nl, rfl⟩
      have k1 := F.sub_list_set
      have k2 := F.sub_list_frozenset
      have k3 : (Value.type "list" == Value.type "dict") = false := by decide
      have hltl : l < s.heap.objs.size := Heap.lt_size old
      unfold Builtin.«set.__init__» noKeywords Builtin.Frozenset.updateFrom
      generalize hPI : pyIter = PI
      wp_walk
      subst hPI
      refine wpAny_pyIter_list isl (wpAny_bind (wpAny_runValue ?_))
      have calm3 : A.in1.in1.in1.handled = none := by simp [hh]
      have psz : (s.heap.push (set0 w)).objs.size = s.heap.objs.size + 1 := Heap.size_push ..
      have apart : l ≠ (s.heap.push (set0 w)).objs.size := fun z => Nat.lt_irrefl l (by rw [psz] at z; exact Nat.lt_of_lt_of_le hltl (by rw [z]; exact Nat.le_succ _))
      have away : s.heap.objs.size ∉ [(s.heap.push (set0 w)).objs.size, l] := by
        rw [psz]
        intro z
        simp only [List.mem_cons, List.mem_nil_iff, or_false] at z
        rcases z with z | z
        · exact absurd z (Nat.ne_of_lt (Nat.lt_succ_self _))
        · exact absurd z (Nat.ne_of_gt hltl)
      have items : ∀ (i : Nat) (v : Value), its[i]? = some v → ∃ k t, ns[i]? = some k ∧ v = .int k t := fun i v hv => by
        have hi : i < ns.length := by rw [← many]; exact (Array.getElem?_eq_some_iff.mp hv).1
        obtain ⟨t, e⟩ := IntsAre.int_at hit i v (by rw [Array.getElem?_toList]; exact hv)
        refine ⟨ns[i], t, List.getElem?_eq_getElem hi, ?_⟩
        rw [e, List.getD_eq_getElem?_getD, List.getElem?_eq_getElem hi]
        rfl
      refine set_update_ints ((Walks.list calm3 _ l apart its).toS) s.heap.objs.size away ns many hb items its.size 0 _ (by omega) (Nat.zero_le _) ⟨⟨_, Heap.get?_push_size _ rfl, rfl, rfl⟩, (isl.push _)⟩ ⟨0, Nat.le_refl 0, ?_⟩ fun s' c' mv hc' hS' => ?_
      · exact setR_new_at (Heap.get?_push_of_some _ at0)
      · obtain ⟨h', g2, d', tk', os'⟩ := s'
        obtain rfl : g2 = s.gens := mv.gens
        obtain rfl : d' = s.drawn := mv.drawn
        obtain rfl : os' = s.os := mv.os
        refine wpAny_pure (wpAny_pure ⟨rfl, h', tk', c', rfl, hS', by rw [many] at hc'; exact hc', fun b o e => ?_⟩)
        have lt := Heap.lt_size e
        refine mv.heap b o ?_ (Heap.get?_push_of_some _ (Heap.get?_push_of_some _ e))
        intro z
        rw [psz] at z
        simp only [List.mem_cons, List.mem_nil_iff, or_false] at z
        rcases z with z | z
        · exact absurd z (Nat.ne_of_lt lt)
        · exact absurd z (Nat.ne_of_lt (Nat.lt_succ_of_lt lt))
    · match r₂, hr₂ with
      | .error e, hr₂ => exact hr₂
      | .ok .next, hr₂ => exact hr₂.elim
      | .ok .brk, hr₂ => exact hr₂.elim
      | .ok .cont, hr₂ => exact hr₂.elim
      | .ok (.ret r), hr₂ =>
        obtain ⟨rfl, h', tk, c', rfl, q1, q2, q3⟩ := hr₂
        repeat (any_goals (first | assumption | wp_step))
        exact fin _ _ _ q1 q2 q3
end
section
variable {X : Cx} {K : PySem.W.Frag} {a : Expr} {ta : TE} {p p2 q pos : Pos}
/-- sorted(set(xs)): the different numbers in order -/
def tSortSet (K : PySem.W.Frag) (ta : TE) : TE := fun σ H Q => ta σ H fun x H1 => ∃ (l : Addr) (ns : List Int), x = .ref l ∧ SqL K H1 l (ns.map V.int) ∧ ns.length < 64 ∧
  ∀ (ms : List Int) r, ms.Pairwise (· < ·) → (∀ k : Int, k ∈ ms ↔ k ∈ ns) → H1 r = none → Q (.ref r) (upd H1 r (.lst (ms.map V.int)))
theorem k_sortSet (hK : X.K = K) (hg : Gl X "sorted") (hm : X.mg "sorted" = none) (hg2 : Gl X "set") (hm2 : X.mg "set" = none) (ha : PE X a ta) (hc : X.calm = true := by rfl)
    (na : starEach [a] X.env = (false, eval a X.env) :: starEach [] X.env := by rfl) : PE X (.Call (.Name "sorted" p) [.Call (.Name "set" p2) [a] [] q] [] pos) (tSortSet K ta) := by
  subst hK
  refine ⟨fun pins s σ H Q I h => ?_⟩
  refine Call_ (ld_blt I hg hm (show bootBuiltins ("sorted" : Str) = some (.builtin "sorted") by decide +kernel) ?_)
  refine callWith_builtin1 (args_cons ?_ rfl) rfl rfl
  refine Call_ (ld_blt I hg2 hm2 boot_set ?_)
  refine callWith_type1 (args_cons (thn (ha.run pins s σ H _ I h) fun v s1 ⟨x, H1, I1, r1, q1⟩ => args_nil ?_) na) na rfl
  obtain ⟨l, ns, rfl, hq, hl, q1⟩ := q1
  cases r1
  obtain ⟨its, r, pl, hz⟩ := I1.list hq
  refine set_of_list ns (I1.ok.hd hc) pl.isList (by simpa using intsAre_vals r) (by unfold scanBound; omega) fun h' tk c hS hcl hk => ?_
  refine args_nil ?_
  have I2 : Inv X pins σ H1 { s1 with heap := h', toks := tk } := I1.kept hk
  refine sorted_set hS (I2.ok.hd hc) (by omega) fun s' p out c2 ms k g o hp hg hi hs hm hlen => ?_
  have few : (ms.map V.int).length ≤ sizeLine := by rw [List.length_map, hlen, sizeLine_eq]; omega
  have hn : H1 p = none := I2.hok.fresh hp
  have J : Inv X pins σ (upd H1 p (.lst (ms.map V.int))) { ({ s1 with heap := h', toks := tk } : Shared) with heap := s'.heap, gens := s'.gens, drawn := s'.drawn, toks := s'.toks } :=
    I2.call (ch := []) (Un.laid k hp hn) (I2.hok.laid k hp ⟨few, out.toList, c2, vals_of_ints hi, hg⟩) (by rw [g]; exact I2.bare) (fun _ z => nomatch z)
  have e : s' = { ({ s1 with heap := h', toks := tk } : Shared) with heap := s'.heap, gens := s'.gens, drawn := s'.drawn, toks := s'.toks } := by
    cases s'
    cases o
    rfl
  rw [e]
  exact ⟨.ref p, _, J, rfl, q1 ms p hs (fun k => by rw [hm k, decide_eq_true_eq]) hn⟩
theorem x_sortSet {σ : L2.St} {H : Hp} {Q : VK} : tSortSet K ta σ H Q = ta σ H fun x H1 => ∃ (l : Addr) (ns : List Int), x = .ref l ∧ SqL K H1 l (ns.map V.int) ∧ ns.length < 64 ∧
  ∀ (ms : List Int) r, ms.Pairwise (· < ·) → (∀ k : Int, k ∈ ms ↔ k ∈ ns) → H1 r = none → Q (.ref r) (upd H1 r (.lst (ms.map V.int))) := rfl
end
/-- two ascending lists of the same numbers are the same -/
theorem asc_same : ∀ {a b : List Int}, a.Pairwise (· < ·) → b.Pairwise (· < ·) → (∀ k : Int, k ∈ a ↔ k ∈ b) → a = b
  | [], [], _, _, _ => rfl
  | [], y :: b, _, _, h => absurd ((h y).mpr List.mem_cons_self) List.not_mem_nil
  | x :: a, [], _, _, h => absurd ((h x).mp List.mem_cons_self) List.not_mem_nil
  | x :: a, y :: b, ha, hb, h => by
    rw [List.pairwise_cons] at ha hb
    have xy : x = y := by
      have h1 := (h x).mp List.mem_cons_self
      have h2 := (h y).mpr List.mem_cons_self
      rcases List.mem_cons.mp h1 with e | e
      · exact e
      · rcases List.mem_cons.mp h2 with e2 | e2
        · exact e2.symm
        · have := ha.1 y e2
          have := hb.1 x e
          omega
    subst xy
    rw [asc_same ha.2 hb.2 fun k => ⟨fun m => by
      rcases List.mem_cons.mp ((h k).mp (List.mem_cons_of_mem _ m)) with e | e
      · subst e; have := ha.1 k m; omega
      · exact e, fun m => by
      rcases List.mem_cons.mp ((h k).mpr (List.mem_cons_of_mem _ m)) with e | e
      · subst e; have := hb.1 k m; omega
      · exact e⟩]
end BC

set_option Elab.async false
set_option linter.all false
set_option maxRecDepth 100000
set_option maxHeartbeats 4000000
/-! sites: lists of lists of natural numbers, and how they lie in the heap -/
namespace BC
open PySem PySem.Spec PyProof.Rows L2 Evl
/-! ### xs + ys of lists of any origin -/
section
variable {prog : Program} {w : World} {A : Around} {E : Value → Shared → Prop} {s : Shared}
theorem add_plain {l b : Addr} {its its2 : Array Value} {Q : Value → Shared → Prop} (x : PlainL s.heap l its) (y : PlainL s.heap b its2) (fits : its.size + its2.size ≤ sizeLine)
    (q : Q (.ref s.heap.objs.size) { s with heap := s.heap.push { cls := .type "list", data := .seq (its ++ its2) } }) : wpAny (model prog w) A (binaryOp .Add (.ref l) (.ref b)) Q E s := by
  obtain ⟨⟨c1, d1, k1, z1⟩, n1, g1, e1, e2, e3⟩ := x
  obtain ⟨⟨c2, d2, k2, z2⟩, n2, g2, e4, e5, e6⟩ := y
  obtain rfl : c1 = .type "list" := e1
  obtain rfl : c2 = .type "list" := e4
  obtain rfl : k1 = .seq its n1 := e3
  obtain rfl : k2 = .seq its2 n2 := e6
  exact concat_meets ⟨_, g1, rfl⟩ ⟨_, g2, rfl⟩ noFill_list_add seq_list_add F.slot_list_add F.entry_list_add (F.args_list_add_2 _ _) (list_addW l b its its2 n1 n2 d1 d2 z1 z2 fits) ⟨g1, g2, q⟩
end
def rCatS (K : PySem.W.Frag) : R2 := fun x y H Q => ∃ l b xs zs, x = .ref l ∧ y = .ref b ∧ SqL K H l xs ∧ SqL K H b zs ∧ xs.length + zs.length ≤ sizeLine ∧ ∀ p, H p = none → Q (.ref p) (upd H p (.lst (xs ++ zs)))
theorem k_catS {X : Cx} {K : PySem.W.Frag} (hK : X.K = K) : OpR X (binaryOp .Add) (rCatS K) := by
  subst hK
  intro pins s σ H x y v u Q I rx ry h
  obtain ⟨l, b, xs, zs, rfl, rfl, hH, hB, hz, q⟩ := h
  cases rx
  cases ry
  obtain ⟨its, r, p1, _⟩ := I.list hH
  obtain ⟨its2, r2, p2, _⟩ := I.list hB
  have l1 := r.length
  have l2 := r2.length
  refine add_plain p1 p2 (by rw [List.size_toArray, List.size_toArray]; omega) ?_
  have ea : its.toArray ++ its2.toArray = (its ++ its2).toArray := by simp
  rw [ea]
  exact ⟨.ref _, _, I.lnew (t' := s.toks) (r.append r2) (by rw [List.length_append]; omega), rfl, q _ I.fresh⟩
theorem catS {K : PySem.W.Frag} {H : Hp} {Q : VK} {p b : Addr} {xs ys : List V} (h : SqL K H p xs) (hb : SqL K H b ys) (hz : xs.length + ys.length ≤ sizeLine) (q : ∀ l, H l = none → Q (.ref l) (upd H l (.lst (xs ++ ys)))) : rCatS K (.ref p) (.ref b) H Q := ⟨p, b, xs, ys, rfl, rfl, h, hb, hz, q⟩
/-- natural numbers as the program's -/
def nz (L : List Nat) : List Int := L.map fun x : Nat => (x : Int)
theorem nz_len (L : List Nat) : (nz L).length = L.length := List.length_map _
theorem nz_at {L : List Nat} {i x : Nat} (h : L[i]? = some x) : ((nz L).map V.int)[i]? = some (.int (x : Int)) := by
  unfold nz
  rw [List.getElem?_map, List.getElem?_map, h]
  rfl
theorem at_nz {L : List Nat} {i : Nat} {v : V} (h : ((nz L).map V.int)[i]? = some v) : ∃ x, L[i]? = some x ∧ v = .int (x : Int) := by
  unfold nz at h
  rw [List.getElem?_map, List.getElem?_map] at h
  cases e : L[i]? with
  | none => rw [e] at h; cases h
  | some x => rw [e] at h; cases h; exact ⟨x, rfl, rfl⟩
theorem nz_mem {L : List Nat} {x : Nat} : ((x : Nat) : Int) ∈ nz L ↔ x ∈ L := by
  unfold nz
  rw [List.mem_map]
  exact ⟨fun ⟨y, h, e⟩ => by rw [← Int.ofNat.inj e]; exact h, fun h => ⟨x, h, rfl⟩⟩
theorem nz_inj : ∀ {a b : List Nat}, nz a = nz b → a = b
  | [], [], _ => rfl
  | [], y :: b, h => by cases h
  | x :: a, [], h => by cases h
  | x :: a, y :: b, h => by
    have h1 := (List.cons.inj h).1
    have h2 := (List.cons.inj h).2
    rw [nz_inj (show nz a = nz b from h2), Int.ofNat.inj h1]
theorem nz_app (a b : List Nat) : nz (a ++ b) = nz a ++ nz b := List.map_append
theorem nz_v (a : List Nat) (x : Nat) : (nz a).map V.int ++ [V.int (x : Int)] = (nz (a ++ [x])).map V.int := by rw [nz_app, List.map_append]; rfl
theorem lts {l : List Nat} (h : l.Pairwise (· < ·)) : (nz l).Pairwise (· < ·) := by
  unfold nz
  rw [List.pairwise_map]
  exact h.imp fun h => by omega
theorem nz_nodup {l : List Nat} (h : l.Nodup) : (nz l).Nodup := by
  unfold nz List.Nodup
  rw [List.pairwise_map]
  exact h.imp fun h e => h (Int.ofNat.inj e)
theorem nodup_lt : ∀ (n : Nat) {l : List Nat}, l.Nodup → (∀ x ∈ l, x < n) → l.length ≤ n
  | 0, [], _, _ => Nat.le_refl _
  | 0, x :: l, _, h => by have := h x List.mem_cons_self; omega
  | n + 1, l, h1, h2 => by
    by_cases m : n ∈ l
    · have h3 := nodup_lt n (l := l.erase n) (h1.erase _) (fun x hx => by
        have a := h2 x (List.mem_of_mem_erase hx)
        have b : x ≠ n := fun e => by
          rw [h1.mem_erase_iff] at hx
          exact hx.1 e
        omega)
      have := List.length_erase_of_mem m
      omega
    · have h3 := nodup_lt n h1 (fun x hx => by
        have a := h2 x hx
        have b : x ≠ n := fun e => m (e ▸ hx)
        omega)
      omega
theorem asc_nodup {l : List Nat} (h : l.Pairwise (· < ·)) : l.Nodup := h.imp fun h => by omega
/-! ### sites -/
abbrev Grid := List (List Nat)
structure SiteOk (G : Grid) : Prop where
  n1 : 1 ≤ G.length
  n2 : G.length ≤ 12
  asc : ∀ (i : Nat) (r : List Nat), G[i]? = some r → r.Pairwise (· < ·)
  lt : ∀ (i : Nat) (r : List Nat), G[i]? = some r → ∀ x ∈ r, x < G.length
  no : ∀ (i : Nat) (r : List Nat), G[i]? = some r → i ∉ r
theorem SiteOk.len {G : Grid} (h : SiteOk G) {i : Nat} {r : List Nat} (e : G[i]? = some r) : r.length ≤ 12 := Nat.le_trans (nodup_lt _ (asc_nodup (h.asc i r e)) (h.lt i r e)) h.n2
/-- the row of a page -/
def row (G : Grid) (i : Nat) : List Nat := G.getD i []
theorem row_at {G : Grid} {i : Nat} {r : List Nat} (h : G[i]? = some r) : row G i = r := by
  unfold row
  rw [List.getD_eq_getElem?_getD, h]
  rfl
theorem at_row {G : Grid} {i : Nat} (h : i < G.length) : G[i]? = some (row G i) := by
  unfold row
  rw [List.getD_eq_getElem?_getD, List.getElem?_eq_getElem h]
  rfl
theorem SiteOk.rlt {G : Grid} (h : SiteOk G) {i x : Nat} (m : x ∈ row G i) : x < G.length := by
  by_cases q : i < G.length
  · exact h.lt i _ (at_row q) x m
  · unfold row at m
    rw [List.getD_eq_getElem?_getD, List.getElem?_eq_none (by omega)] at m
    exact (List.not_mem_nil m).elim
theorem SiteOk.rlen {G : Grid} (h : SiteOk G) (i : Nat) : (row G i).length ≤ 12 := by
  by_cases q : i < G.length
  · exact h.len (at_row q)
  · unfold row
    rw [List.getD_eq_getElem?_getD, List.getElem?_eq_none (by omega)]
    exact Nat.zero_le _
/-- a list at s of lists of numbers -/
def GridAt (H : Hp) (s : Addr) (G : Grid) : Prop := ∃ ps : List Addr, H s = some (.lst (ps.map V.ref)) ∧ ps.length = G.length ∧ ∀ i p, ps[i]? = some p → H p = some (.lst ((nz (row G i)).map V.int))
theorem GridAt.ex {H H' : Hp} {s : Addr} {G : Grid} (h : GridAt H s G) (e : Ex H H') : GridAt H' s G := by
  obtain ⟨ps, h1, h2, h3⟩ := h
  exact ⟨ps, e _ _ h1, h2, fun i p q => e _ _ (h3 i p q)⟩
theorem GridAt.get {H : Hp} {s : Addr} {G : Grid} (h : GridAt H s G) {i : Nat} (hi : i < G.length) : ∃ p xs, H s = some (.lst xs) ∧ xs.length = G.length ∧ xs[i]? = some (.ref p) ∧ H p = some (.lst ((nz (row G i)).map V.int)) := by
  obtain ⟨ps, h1, h2, h3⟩ := h
  have hx : ps[i]? = some ps[i] := List.getElem?_eq_getElem (by omega)
  exact ⟨ps[i], _, h1, by rw [List.length_map]; exact h2, by rw [List.getElem?_map, hx]; rfl, h3 i _ hx⟩
theorem GridAt.lst {H : Hp} {s : Addr} {G : Grid} (h : GridAt H s G) : ∃ xs, H s = some (.lst xs) ∧ xs.length = G.length ∧ ∀ (i : Nat) (v : V), xs[i]? = some v → i < G.length ∧ ∃ p, v = .ref p ∧ H p = some (.lst ((nz (row G i)).map V.int)) := by
  obtain ⟨ps, h1, h2, h3⟩ := h
  refine ⟨_, h1, by rw [List.length_map]; exact h2, fun i v e => ?_⟩
  rw [List.getElem?_map] at e
  cases q : ps[i]? with
  | none => rw [q] at e; cases e
  | some p =>
    rw [q] at e
    cases e
    exact ⟨by have := (List.getElem?_eq_some_iff.mp q).1; omega, p, rfl, h3 i p q⟩
/-- such a list, all of it new -/
def GridN (H H' : Hp) (s : Addr) (G : Grid) : Prop := H s = none ∧ ∃ ps : List Addr, H' s = some (.lst (ps.map V.ref)) ∧ ps.length = G.length ∧ ps.Nodup ∧ s ∉ ps ∧ ∀ i p, ps[i]? = some p → H p = none ∧ H' p = some (.lst ((nz (row G i)).map V.int))
theorem GridN.at {H H' : Hp} {s : Addr} {G : Grid} (h : GridN H H' s G) : GridAt H' s G := by
  obtain ⟨_, ps, h1, h2, _, _, h3⟩ := h
  exact ⟨ps, h1, h2, fun i p q => (h3 i p q).2⟩
theorem GridN.ex {H H' H2 : Hp} {s : Addr} {G : Grid} (h : GridN H H' s G) (e : Ex H' H2) : GridN H H2 s G := by
  obtain ⟨h0, ps, h1, h2, h4, h5, h3⟩ := h
  exact ⟨h0, ps, e _ _ h1, h2, h4, h5, fun i p q => ⟨(h3 i p q).1, e _ _ (h3 i p q).2⟩⟩
theorem GridN.back {H0 H H' : Hp} {s : Addr} {G : Grid} (h : GridN H H' s G) (e : Ex H0 H) : GridN H0 H' s G := by
  obtain ⟨h0, ps, h1, h2, h4, h5, h3⟩ := h
  exact ⟨fresh_back e h0, ps, h1, h2, h4, h5, fun i p q => ⟨fresh_back e (h3 i p q).1, (h3 i p q).2⟩⟩
/-- what was new after Hc stands -/
def Nw (Hc H H' : Hp) : Prop := ∀ x o, Hc x = none → H x = some o → H' x = some o
theorem Nw.of {Hc H H' : Hp} (e : Ex H H') : Nw Hc H H' := fun x o _ h => e x o h
theorem Nw.trans {Hc H H' H'' : Hp} (e : Nw Hc H H') (f : Nw Hc H' H'') : Nw Hc H H'' := fun x o n h => f x o n (e x o n h)
theorem Nw.fx {Hc H H' : Hp} {b : Addr} {o : HO} (h : Hc b = some o) (f : Fx b H H') : Nw Hc H H' := fun x v n g => f x v (fun e => by subst e; rw [h] at n; cases n) g
theorem Nw.put {Hc H : Hp} {a : Addr} {o u : HO} (h : Hc a = some u) : Nw Hc H (upd H a o) := fun x v n g => by
  rw [upd_ne (fun e => by subst e; rw [h] at n; cases n)]
  exact g
theorem GridN.nw {H H1 H2 : Hp} {s : Addr} {G : Grid} (h : GridN H H1 s G) (e : Nw H H1 H2) : GridN H H2 s G := by
  obtain ⟨h0, ps, h1, h2, h4, h5, h3⟩ := h
  exact ⟨h0, ps, e _ _ h0 h1, h2, h4, h5, fun i p q => ⟨(h3 i p q).1, e _ _ (h3 i p q).1 (h3 i p q).2⟩⟩
/-- one row more, made while the grid stood -/
theorem GridN.push {H H1 H' : Hp} {s p : Addr} {G : Grid} {r : List Nat} (h : GridN H H1 s G) (nH : H p = none) (np : H1 p = none) (e : Nw H H1 H') (hp : H' p = some (.lst ((nz r).map V.int))) :
    ∃ xs, H' s = some (.lst xs) ∧ xs.length = G.length ∧ GridN H (upd H' s (.lst (xs ++ [.ref p]))) s (G ++ [r]) := by
  have q1 := h
  obtain ⟨h0, ps, h1, h2, h4, h5, h3⟩ := h
  have hs : p ≠ s := Ne.symm (ne_of_none h1 np)
  refine ⟨_, e _ _ h0 h1, by rw [List.length_map]; exact h2, h0, ps ++ [p], by rw [upd_same, List.map_append]; rfl, by rw [List.length_append, List.length_append, h2]; rfl, ?_, ?_, fun i q eq => ?_⟩
  · rw [List.nodup_append]
    refine ⟨h4, by simp, fun a ha b hb e => ?_⟩
    rw [List.mem_singleton.mp hb] at e
    subst e
    obtain ⟨j, hj, ej⟩ := List.getElem_of_mem ha
    have := (h3 j a (List.getElem?_eq_some_iff.mpr ⟨hj, ej⟩)).2
    rw [np] at this
    cases this
  · intro m
    rcases List.mem_append.mp m with m | m
    · exact h5 m
    · exact hs (List.mem_singleton.mp m).symm
  · by_cases hi : i < ps.length
    · rw [List.getElem?_append_left hi] at eq
      have := h3 i q eq
      have ns : q ≠ s := fun z => h5 (z ▸ List.mem_of_getElem? eq)
      refine ⟨this.1, ?_⟩
      rw [upd_ne ns, e _ _ this.1 this.2]
      unfold row
      rw [List.getD_eq_getElem?_getD, List.getD_eq_getElem?_getD, List.getElem?_append_left (by omega)]
    · rw [List.getElem?_append_right (by omega)] at eq
      have hi2 : i - ps.length = 0 := by
        have := (List.getElem?_eq_some_iff.mp eq).1
        rw [List.length_singleton] at this
        omega
      rw [hi2] at eq
      obtain rfl : p = q := by simpa using eq
      refine ⟨nH, ?_⟩
      rw [upd_ne hs, hp]
      unfold row
      have : i = G.length := by omega
      rw [this, List.getD_eq_getElem?_getD, List.getElem?_append_right (Nat.le_refl _), Nat.sub_self]
      rfl
theorem GridN.nil {H : Hp} {s : Addr} (h : H s = none) : GridN H (upd H s (.lst [])) s [] := ⟨h, [], upd_same, rfl, List.nodup_nil, List.not_mem_nil, fun i p e => by simp at e⟩
/-- as data -/
def dG (G : Grid) : PyData := .list (G.map fun r => .list ((nz r).map PyData.int))
theorem dG_LL (G : Grid) : dG G = dLL (G.map nz) := by unfold dG dLL; rw [List.map_map]; rfl
theorem GridAt.dp {K : PySem.W.Frag} {H : Hp} {s : Addr} {G : Grid} (h : GridAt H s G) : Dp K H (.ref s) (dG G) := by
  obtain ⟨ps, h1, h2, h3⟩ := h
  rw [dG_LL]
  refine .lst (.inl (.inl h1)) (dp_ll (by rw [List.length_map]; exact h2) fun i p l a b => ?_)
  rw [List.getElem?_map] at b
  cases q : G[i]? with
  | none => rw [q] at b; cases b
  | some r =>
    rw [q] at b
    cases b
    have := h3 i p a
    rw [row_at q] at this
    exact .inl (.inl this)
theorem shp_LL (ls : List (List Int)) : SeqAt.shaped (dLL ls) = true := by
  have h0 : ∀ ns : List Int, PyData.canLayAll0 (ns.map PyData.int) = true := fun ns => by
    induction ns with
    | nil => simp [PyData.canLayAll0]
    | cons n ns ih => simp [PyData.canLayAll0, PyData.canLay0, ih]
  have h1 : ∀ ls : List (List Int), PyData.canLayAll0 (ls.map fun l => PyData.list (l.map PyData.int)) = true := fun ls => by
    induction ls with
    | nil => simp [PyData.canLayAll0]
    | cons l ls ih => simp [PyData.canLayAll0, PyData.canLay0, ih, h0]
  have h2 := dep_all (ds := ls.map fun l => PyData.list (l.map PyData.int)) (n := 1) fun d m => by
      obtain ⟨l, hm, rfl⟩ := List.mem_map.mp m
      simp only [PyData.depth]
      have := dep_all (ds := l.map PyData.int) (n := 0) fun d m => by
        obtain ⟨x, hx, rfl⟩ := List.mem_map.mp m
        simp [PyData.depth]
      omega
  show (PyData.canLay0 _ && decide (PyData.depth _ ≤ 64)) = true
  rw [Bool.and_eq_true]
  refine ⟨?_, decide_eq_true ?_⟩
  · unfold dLL; simp only [PyData.canLay0]; exact h1 ls
  · unfold dLL; simp only [PyData.depth]; omega
theorem eqv_LL : ∀ as bs : List (List Int), PyData.eqv (dLL as) (dLL bs) = decide (as = bs) := fun as bs => by
  unfold dLL
  simp only [PyData.eqv]
  induction as generalizing bs with
  | nil => cases bs <;> simp [PyData.eqvAll]
  | cons a as ih =>
    cases bs with
    | nil => simp [PyData.eqvAll]
    | cons b bs =>
      simp only [List.map_cons, PyData.eqvAll, eqv_ints, ih]
      by_cases h : a = b
      · subst h; simp
      · simp [h]
theorem nzs_inj : ∀ {a b : Grid}, a.map nz = b.map nz → a = b
  | [], [], _ => rfl
  | [], y :: b, h => by cases h
  | x :: a, [], h => by cases h
  | x :: a, y :: b, h => by
    rw [List.map_cons, List.map_cons] at h
    rw [nz_inj (List.cons.inj h).1, nzs_inj (List.cons.inj h).2]
theorem eqGrid {K : PySem.W.Frag} {H : Hp} {Q : VK} {a b : Addr} {F G : Grid} (h : GridAt H a F) (g : GridAt H b G) (q : Q (.bl (decide (F = G))) H) : rEqD K (.ref a) (.ref b) H Q := by
  have e : decide (F.map nz = G.map nz) = decide (F = G) := by
    by_cases z : F = G
    · rw [z, decide_eq_true rfl, decide_eq_true rfl]
    · rw [decide_eq_false z, decide_eq_false fun y => z (nzs_inj y)]
  refine ⟨_, _, h.dp, g.dp, by rw [dG_LL]; exact shp_LL _, by rw [dG_LL]; exact shp_LL _, ?_⟩
  rw [dG_LL, dG_LL, eqv_LL, e]
  exact q
theorem neGrid {K : PySem.W.Frag} {H : Hp} {Q : VK} {a b : Addr} {F G : Grid} (h : GridAt H a F) (g : GridAt H b G) (q : Q (.bl (!decide (F = G))) H) : rNeD K (.ref a) (.ref b) H Q := by
  have e : decide (F.map nz = G.map nz) = decide (F = G) := by
    by_cases z : F = G
    · rw [z, decide_eq_true rfl, decide_eq_true rfl]
    · rw [decide_eq_false z, decide_eq_false fun y => z (nzs_inj y)]
  refine ⟨_, _, h.dp, g.dp, by rw [dG_LL]; exact shp_LL _, by rw [dG_LL]; exact shp_LL _, ?_⟩
  rw [dG_LL, dG_LL, eqv_LL, e]
  exact q
theorem at_ints {ns : List Int} {i : Nat} {n : Int} (h : ns[i]? = some n) : (ns.map V.int)[i]? = some (.int n) := by rw [List.getElem?_map, h]; rfl
theorem atI_last {xs : List V} {v : V} (h : xs[xs.length - 1]? = some v) : atI xs (-1) = some v := by
  have hl : xs.length - 1 < xs.length := (List.getElem?_eq_some_iff.mp h).1
  have e : ixN xs.length (-1) = some (xs.length - 1) := by
    unfold ixN
    rw [if_neg (by omega), if_pos (by omega)]
    congr 1
    omega
  unfold atI
  rw [e]
  exact h
theorem cutV_from1 (xs : List V) : cutV xs (some 1) none = xs.drop 1 := by
  unfold cutV
  have e2 : HT.sIx xs.length xs.length none = xs.length := rfl
  have e1 : HT.sIx xs.length 0 (some 1) = min 1 xs.length := HT.sIx_nat ..
  rw [e1, e2]
  by_cases h : 1 ≤ xs.length
  · rw [Nat.min_eq_left h, List.take_of_length_le (by rw [List.length_drop]; omega)]
  · have : xs = [] := List.length_eq_zero_iff.mp (by omega)
    rw [this]
    rfl
theorem cut_take (xs : List V) (j : Nat) : cutV xs none (some (j : Int)) = xs.take j := by
  by_cases h : j ≤ xs.length
  · exact BC.cut_to xs rfl h
  · unfold cutV
    have e1 : HT.sIx xs.length 0 none = 0 := rfl
    rw [HT.sIx_nat, e1, List.drop_zero, Nat.sub_zero, Nat.min_eq_right (by omega), List.take_length, List.take_of_length_le (by omega)]
theorem GridN.get {H H' : Hp} {s : Addr} {G : Grid} (h : GridN H H' s G) {i : Nat} (hi : i < G.length) : ∃ p xs, H' s = some (.lst xs) ∧ xs.length = G.length ∧ xs[i]? = some (.ref p) ∧ H' p = some (.lst ((nz (row G i)).map V.int)) ∧ H p = none := by
  obtain ⟨_, ps, h1, h2, _, _, h3⟩ := h
  have hx : ps[i]? = some ps[i] := List.getElem?_eq_getElem (by omega)
  exact ⟨ps[i], _, h1, by rw [List.length_map]; exact h2, by rw [List.getElem?_map, hx]; rfl, (h3 i _ hx).2, (h3 i _ hx).1⟩
theorem GridN.lower {Hl H H' : Hp} {b s : Addr} {G : Grid} (h : GridN H H' s G) (f : Fx b Hl H) (hb : ∃ o, H b = some o) : GridN Hl H' s G := by
  obtain ⟨o, ho⟩ := hb
  obtain ⟨h0, ps, h1, h2, h4, h5, h3⟩ := h
  have nb : ∀ {x : Addr}, H x = none → x ≠ b := fun n e => by subst e; rw [ho] at n; cases n
  exact ⟨fx_none f h0 (nb h0), ps, h1, h2, h4, h5, fun i p q => ⟨fx_none f (h3 i p q).1 (nb (h3 i p q).1), (h3 i p q).2⟩⟩
theorem nd_at {l : List Addr} (h : l.Nodup) {i j : Nat} {x : Addr} (a : l[i]? = some x) (b : l[j]? = some x) : i = j := by
  obtain ⟨h1, h2⟩ := List.getElem?_eq_some_iff.mp a
  obtain ⟨h3, h4⟩ := List.getElem?_eq_some_iff.mp b
  have e1 := h.idxOf_getElem i h1
  have e2 := h.idxOf_getElem j h3
  rw [h2] at e1
  rw [h4] at e2
  exact e1.symm.trans e2
/-- kept of a list -/
theorem kept_nz (s : List Nat) (k : Nat → Bool) : kept s.length (fun i => k (s.getD i 0)) (fun i => V.int ((s.getD i 0 : Nat) : Int)) = (nz (s.filter k)).map V.int := by
  unfold kept nz
  have e : (List.range s.length).map (fun i => s.getD i 0) = s := by
    apply List.ext_getElem?
    intro j
    by_cases h : j < s.length
    · rw [List.getElem?_map, List.getElem?_range h, List.getElem?_eq_getElem h]
      show some (s.getD j 0) = _
      rw [List.getD_eq_getElem?_getD, List.getElem?_eq_getElem h]
      rfl
    · rw [List.getElem?_eq_none (by rw [List.length_map, List.length_range]; omega), List.getElem?_eq_none (by omega)]
  conv => rhs; rw [← e]
  rw [List.filter_map, List.map_map, List.map_map]
  rfl
theorem kept_rng (n : Nat) (k : Nat → Bool) : kept n k (fun i => V.int ((i : Nat) : Int)) = (nz ((List.range n).filter k)).map V.int := by
  unfold kept nz
  rw [List.map_map]
  rfl
/-- zip of lists of different lengths -/
theorem lc_zipM {K : PySem.W.Frag} {σ : L2.St} {H1 : Hp} {tt : TT} {te : TE} {vs : List Nat} {Dl : Addr} {Q : VK} {a b : Addr} {xs ys : List V} {j k : Nat} (n : Nat) (keep : Nat → Bool) (f : Nat → V) (hx : SqL K H1 a xs) (hy : SqL K H1 b ys) (h1 : n ≤ xs.length) (h2 : n ≤ ys.length) (h3 : n = xs.length ∨ n = ys.length) (hD : H1 Dl = none) (hn : n ≤ 100000)
    (hw : ∀ u v : V, wipe (((wipe σ vs).set j (some u)).set k (some v)) vs = wipe σ vs)
    (ht : ∀ i x y, xs[i]? = some x → ys[i]? = some y → Evl.EvT tt (((wipe σ vs).set j (some x)).set k (some y)) H1 (keep i))
    (he : ∀ i x y, xs[i]? = some x → ys[i]? = some y → keep i = true → Evl.Ev te (((wipe σ vs).set j (some x)).set k (some y)) H1 (f i))
    (hd : ∀ H', Evl.Ex H1 H' → H' Dl = some (.lst (kept n keep f)) → Q (.ref Dl) H') : LcG (Itz K a b) (gTup K 2 (gCons (gName j) (gCons (gName k) gNil))) tt te vs σ Dl H1 Q := by
  have gx : ∀ i, i < n → xs[i]? = some (xs.getD i .non) := fun i hi => by rw [List.getD_eq_getElem?_getD, List.getElem?_eq_getElem (by omega)]; rfl
  have gy : ∀ i, i < n → ys[i]? = some (ys.getD i .non) := fun i hi => by rw [List.getD_eq_getElem?_getD, List.getElem?_eq_getElem (by omega)]; rfl
  refine lc_pure n (fun i => ((wipe σ vs).set j (some (xs.getD i .non))).set k (some (ys.getD i .non))) keep f hD hn (fun H' e => ⟨xs, ys, Evl.ex_l e hx, Evl.ex_l e hy, by omega⟩)
    (fun i H' hi e => ⟨xs, ys, _, _, Evl.ex_l e hx, Evl.ex_l e hy, gx i hi, gy i hi⟩)
    (fun i H' x H'' QG hi e y q => ?_) (fun i hi => hw _ _) (fun i hi => ht i _ _ (gx i hi) (gy i hi)) (fun i hi => he i _ _ (gx i hi) (gy i hi)) hd
  obtain ⟨T, u, v, rfl, hT, rfl, hf, hf2⟩ := y
  have hu := hf xs (Evl.ex_l e hx)
  have hv := hf2 ys (Evl.ex_l e hy)
  have e1 : xs.getD i .non = u := by rw [List.getD_eq_getElem?_getD, hu]; rfl
  have e2 : ys.getD i .non = v := by rw [List.getD_eq_getElem?_getD, hv]; rfl
  refine g_two upd_same ?_
  have q2 := q (Evl.Ex.new hT)
  rw [e1, e2] at q2
  exact q2
end BC

set_option Elab.async false
set_option linter.all false
set_option maxRecDepth 100000
set_option maxHeartbeats 4000000
/-! own __len__, sorted(d.items()), comprehensions over pairs -/
namespace BC
open PySem PySem.Spec PyProof.Rows L2 Evl
section
variable {X : Cx} {CX : CXT} {k : Nat} {C f : Addr} {fd : FuncData} {ps : List Str} {sp : Sp} {E : XK}
/-- len(o), by the class's own __len__ -/
def rLenOwn (C : Addr) (sp : Sp) (E : XK) : List V → Hp → VK → Prop := fun xs H Q => ∃ a dx fs, xs = [.ref a] ∧ H a = some (.ins C dx fs) ∧ sp [.ref a] H (fun v H' => ∃ n : Int, v = .int n ∧ 0 ≤ n ∧ n < 2 ^ 63 ∧ Q (.int n) H') E
theorem call_lenOwn (hs : PySem.W.findIn X.K (.ref C) "__len__" = some (some (.ref f))) (hf : PySem.W.isFn X.K (.ref f) = true) (F : FnOk X.prog X.w X.K X.mg X.base CX k f fd ps sp) (hr : Room (k + 1) X.A) (hb : Binds X.K fd ps []) (hx : Passes CX X E) : CallR X (.builtin "len") (rLenOwn C sp E) := by
  intro pins s σ H xs us Q I r h
  obtain ⟨a, dx, fs, rfl, ea, h⟩ := h
  obtain ⟨u, rfl, ru⟩ := vals1 r
  obtain rfl : u = Value.ref a := ru
  obtain ⟨mA, O, _, _, _, _⟩ := ins_get I.hok ea
  obtain ⟨od, J, _⟩ := O.look
  obtain ⟨m, hF⟩ := I.fr
  have hl : ([Value.ref a] ++ ([] : List Value)).length = ps.length := by
    rw [← F.len _ _ _ _ h]
    rfl
  refine PySem.W.len_K hF I.ok.mod.kin J hs hf (wpAny_call ?_)
  refine codeAny_mono (F.run X.A.in1 X.stack s H ⟨[.ref a], []⟩ [.ref a] [.ref a] _ E hr.in1 I.env0.in1 (hb _ [.ref a] I.kIn hl) (.cons rfl .nil) h) fun r s' hq => ?_
  cases r with
  | error er => exact hx pins σ H s er s' I hq
  | ok fl =>
    cases fl with
    | ret u =>
      obtain ⟨v, H', I3, rv, n, rfl, n0, n1, q⟩ := I.after hq
      obtain ⟨t, rfl⟩ := rv
      exact ⟨⟨n0, n1⟩, .int n, H', I3.tok _, ⟨_, rfl⟩, q⟩
    | next => exact False.elim hq
    | brk => exact False.elim hq
    | cont => exact False.elim hq
end
/-! ### sorted(d.items()), numbers by numbers -/
def PairAt (H : Hp) (t : Addr) (q : Int × Int) : Prop := H t = some (.tup [.int q.1, .int q.2])
def itK (q : Int × Int) : Key × V := (Sum.inl q.1, .int q.2)
def leP (a b : Int × Int) : Prop := a.1 < b.1 ∨ (a.1 = b.1 ∧ a.2 ≤ b.2)
open L2.DX
/-- d.items() of a dict of numbers or texts -/
def rItems : V → List V → Hp → VK → Prop := fun x xs H Q => ∃ (a : Addr) (kvs : List (Key × V)), x = .ref a ∧ xs = [] ∧ H a = some (.dK kvs) ∧ ∀ p, H p = none → Q (.ref p) (upd H p (itemsO p a))
def rSortIt : List V → Hp → VK → Prop := fun xs H Q => ∃ (v d : Addr) (qs : List (Int × Int)), xs = [.ref v] ∧ H v = some (itemsO v d) ∧ H d = some (.dK (qs.map itK)) ∧
  ∀ (H' : Hp) (p : Addr) (ts : List Addr) (rs : List (Int × Int)), Ex H H' → H p = none → H' p = some (.lst (ts.map V.ref)) → rs.Perm qs → rs.Pairwise leP → ts.length = rs.length → (∀ i t, ts[i]? = some t → H t = none ∧ PairAt H' t (rs.getD i (0, 0))) → Q (.ref p) H'
theorem pairs_get {κ : Type} [DecidableEq κ] {P : Program} {w : World} {knd : KeyKind P w κ} {es : List DictEntry} {vs : List (κ × Value)} (h : Pairs knd es vs) : ∀ {j : Nat} {en : DictEntry}, es[j]? = some en → ∃ kv, vs[j]? = some kv ∧ knd.is kv.1 en.key = true ∧ en.val = kv.2 := by
  induction h with
  | nil => intro j en e; simp at e
  | @cons e kv es kvs h1 h2 _ ih =>
    intro j en he
    cases j with
    | zero =>
      simp at he
      subst he
      exact ⟨kv, by simp, h1, h2⟩
    | succ j =>
      simp only [List.getElem?_cons_succ] at he ⊢
      exact ih he
section
variable {X : Cx}
theorem mt_items : MtR X "dict.items" rItems := by
  intro pins s σ H x xs v us Q I rx rxs h
  obtain ⟨a, kvs, rfl, rfl, ha, q⟩ := h
  cases rx
  cases rxs
  obtain ⟨hz, hd0, vs, kv, o, es, ep, ho, hx, hdat, _⟩ := dk_of I.hok ha
  refine DT.callItems (es := es) (ep := ep) hd0 ⟨o, ho, hx, hdat⟩ ?_
  have hf : H s.heap.objs.size = none := I.hok.fresh (Nat.le_refl _)
  exact ⟨.ref s.heap.objs.size, upd H s.heap.objs.size (itemsO s.heap.objs.size a), I.laid (t' := s.toks) (fun b u e => Heap.get?_push_of_some _ e) (Nat.le_refl _) (itemsO_ok (Heap.get?_push_size _ rfl)), rfl, q _ hf⟩
def adr : Value → Addr
  | .ref b => b
  | _ => 0
theorem cr_sortIt (hc : X.calm = true) : CallR X (.builtin "sorted") rSortIt := by
  intro pins s σ H xs us Q I r h
  obtain ⟨p, a, qs, rfl, hp, ha, q⟩ := h
  obtain rfl := Vals.ref1 r
  have view : s.heap.IsItemsView p a := (show ObjOk X.prog X.w H s.heap p (itemsO p a) from I.hok p _ hp).1
  obtain ⟨hz, hd0, vs, kv, o, es, ep, ho, hx, hdat, hks, prs, hn⟩ := dk_of I.hok ha
  rw [List.length_map] at hz
  have l1 : (qs.map itK).length = vs.length := Paired.length kv
  rw [List.length_map] at l1
  have l2 : es.size = vs.length := by rw [← prs.length, Array.length_toList]
  refine DT.sortedI (es := es) (ep := ep) (I.ok.hd hc) view ⟨o, ho, hx, hdat⟩ (by omega) fun h' tk as hk hlt hl hG => ?_
  have lak : as.length = qs.length := by omega
  have nd : as.Nodup := List.Pairwise.imp (fun h => Nat.ne_of_lt h) hG.rise
  have pr : ∀ (j : Nat) (b : Addr), as[j]? = some b → ∃ (g : Int × Int) (t u : Tok), qs[j]? = some g ∧ h'.get? b = some { cls := .type "tuple", data := .seq #[Value.int g.1 t, Value.int g.2 u] } := by
    intro j b hj
    obtain ⟨en, he, hg⟩ := hG.pairs j b hj
    have he' : es.toList[j]? = some en := by rw [Array.getElem?_toList]; exact he
    obtain ⟨kv0, h1, h2, h3⟩ := pairs_get prs he'
    have hjl : j < qs.length := by have := (List.getElem?_eq_some_iff.mp hj).1; omega
    have hq : qs[j]? = some qs[j] := List.getElem?_eq_getElem hjl
    obtain ⟨u, hu, ru⟩ := kv_get kv (i := j) (k := Sum.inl qs[j].1) (v := .int qs[j].2) (by rw [List.getElem?_map, hq]; rfl)
    rw [h1] at hu
    cases hu
    obtain ⟨tk1, hk1⟩ : RelV (kV (Sum.inl qs[j].1)) en.key := relV_key (show keyIs (Sum.inl qs[j].1) en.key = true from h2)
    obtain ⟨tk2, hk2⟩ := ru
    refine ⟨qs[j], tk1, tk2, hq, ?_⟩
    rw [hg, h3, hk2]
    have : en.key = Value.int qs[j].1 tk1 := hk1
    rw [this]
  have hob : (h'.push { cls := .type "list", data := .seq (as.map Value.ref).toArray }).get? h'.objs.size = some (seqObj "list" (as.map Value.ref).toArray 0) := Heap.get?_push_size _ rfl
  have kb : ∀ b o, s.heap.get? b = some o → (h'.push { cls := .type "list", data := .seq (as.map Value.ref).toArray }).get? b = some o := fun b o e => Heap.get?_push_of_some _ (hk b o e)
  have ne0 : ∀ b o, h'.get? b = some o → b ≠ h'.objs.size := fun b o e => Nat.ne_of_lt (Heap.lt_size e)
  generalize hh2 : h'.push { cls := .type "list", data := .seq (as.map Value.ref).toArray } = h2 at hob kb ⊢
  have ka : ∀ b o, h'.get? b = some o → h2.get? b = some o := fun b o e => by rw [← hh2]; exact Heap.get?_push_of_some _ e
  let kf : Value → Int × Int := fun u => qs.getD (as.idxOf (adr u)) (0, 0)
  have kfa : ∀ (j : Nat) (b : Addr), as[j]? = some b → kf (.ref b) = qs.getD j (0, 0) := fun j b hj => by
    obtain ⟨hjl, hjb⟩ := List.getElem?_eq_some_iff.mp hj
    show qs.getD (as.idxOf b) (0, 0) = _
    rw [← hjb, nd.idxOf_getElem j hjl]
  have isp : ∀ v ∈ as.map Value.ref, Srt.IsPair h2 v (kf v).1 (kf v).2 := fun v hv => by
    obtain ⟨b, hb, rfl⟩ := List.mem_map.mp hv
    obtain ⟨j, hj⟩ := List.mem_iff_getElem?.mp hb
    obtain ⟨g, t, u, hg, hob⟩ := pr j b hj
    rw [kfa j b hj, List.getD_eq_getElem?_getD, hg]
    exact ⟨b, _, t, u, 0, rfl, ka _ _ hob, rfl, rfl⟩
  refine wpAny_call_entry PyProof.Rows.slot_list_sort ⟨_, hob, rfl⟩ PyProof.Rows.entry_list_sort
    (SrtO.list_sort_ord (s := { s with heap := h2, toks := tk }) (SrtO.swo_lex kf) hob (by rw [List.length_map]; omega) (fun h2' => SrtO.pairs_sortableO (by omega) isp fun o e => ?_) fun out h1 h2' => ⟨.none, rfl, ?_⟩) (PyProof.Rows.args_list_sort _)
  · have e' : some o = some (seqObj "list" (as.map Value.ref).toArray 0) := e.symm.trans hob
    cases e'
    intro c
    exact absurd (Value.type.inj c) (by decide)
  · show EP X pins σ Q (.ref h'.objs.size) { s with heap := sortedHeap h2 h'.objs.size (as.map Value.ref) out.toArray, toks := tk }
    have hperm := h2'.perm
    have outr : ∀ u ∈ out, ∃ b, b ∈ as ∧ u = Value.ref b := fun u hu => by
      obtain ⟨b, hb, e⟩ := List.mem_map.mp (hperm.mem_iff.mp hu)
      exact ⟨b, hb, e.symm⟩
    have hout : out = (out.map adr).map Value.ref := by
      rw [List.map_map]
      conv => lhs; rw [← List.map_id out]
      refine List.map_congr_left fun u hu => ?_
      obtain ⟨b, _, rfl⟩ := outr u hu
      rfl
    have tperm : (out.map adr).Perm as := by
      have := hperm.map adr
      rw [List.map_map] at this
      have e : as.map (adr ∘ Value.ref) = as := by
        conv => rhs; rw [← List.map_id as]
        exact List.map_congr_left fun b _ => rfl
      rw [e] at this
      exact this
    have kF : ∀ b o, b ≠ h'.objs.size → h2.get? b = some o → (sortedHeap h2 h'.objs.size (as.map Value.ref) out.toArray).get? b = some o := fun b o hb e => (PyProof.Rows.sortedHeap_old hb (Heap.lt_size e)).trans e
    have kS : ∀ b o, s.heap.get? b = some o → (sortedHeap h2 h'.objs.size (as.map Value.ref) out.toArray).get? b = some o := fun b o e => kF b o (ne0 _ _ (hk b o e)) (kb b o e)
    obtain ⟨eF, heF⟩ := PyProof.Rows.sortedHeap_at (vs := as.map Value.ref) (out := out.toArray) hob
    have I1 : Inv X pins σ H { s with heap := sortedHeap h2 h'.objs.size (as.map Value.ref) out.toArray, toks := tk } := I.kept (t' := tk) kS
    have hn0 : H h'.objs.size = none := I.hok.fresh (Nat.le_of_lt hlt)
    have lout : (out.map adr).length = qs.length := by rw [tperm.length_eq, lak]
    have rv : Vals ((out.map adr).map V.ref) out := by
      conv => rhs; rw [hout]
      exact LiI.vals_refs _
    have I2 : Inv X pins σ (upd H h'.objs.size (.lst ((out.map adr).map V.ref))) { s with heap := sortedHeap h2 h'.objs.size (as.map Value.ref) out.toArray, toks := tk } :=
      I1.take (h' := sortedHeap h2 h'.objs.size (as.map Value.ref) out.toArray) (t' := tk) (fun b ob _ e => e) (I.fpOk (Nat.le_of_lt hlt) hn0) ⟨by rw [List.length_map, lout]; omega, out, eF, rv, heF⟩
    obtain ⟨H2, I3, g, qt⟩ := takeT (P := fun b vs => ∃ (j : Nat) (g : Int × Int), as[j]? = some b ∧ qs[j]? = some g ∧ vs = [.int g.1, .int g.2]) I as _ I2 nd fun b hb => by
      obtain ⟨j, hj⟩ := List.mem_iff_getElem?.mp hb
      obtain ⟨g, t, u, hg, hob⟩ := pr j b hj
      have hbl : s.heap.objs.size ≤ b := Nat.le_of_lt (hG.above b hb)
      refine ⟨hbl, ?_, [.int g.1, .int g.2], ⟨j, g, hj, hg, rfl⟩, fun H3 => ⟨(by rw [sizeLine_eq]; show 2 ≤ 16777216; omega), [Value.int g.1 t, Value.int g.2 u], .cons ⟨t, rfl⟩ (.cons ⟨u, rfl⟩ .nil), ⟨_, kF _ _ (ne0 _ _ hob) (ka _ _ hob), rfl, 0, rfl⟩⟩⟩
      rw [upd_ne (ne0 _ _ hob)]
      exact I.hok.fresh hbl
    have gr : ∀ b o, H b = some o → H2 b = some o := fun b o e => g b o (by rw [upd_ne (ne_of_none e hn0)]; exact e)
    refine ⟨.ref h'.objs.size, H2, I3, rfl, q H2 h'.objs.size (out.map adr) ((out.map adr).map fun b => kf (.ref b)) gr hn0 (g _ _ upd_same) ?_ ?_ (by simp only [List.length_map]) fun i t hi => ?_⟩
    · have e := tperm.map (fun b => kf (.ref b))
      have e2 : as.map (fun b => kf (.ref b)) = qs := by
        apply List.ext_getElem?
        intro j
        rw [List.getElem?_map]
        cases c : as[j]? with
        | none =>
          rw [List.getElem?_eq_none_iff] at c
          rw [List.getElem?_eq_none (by omega)]
          rfl
        | some b =>
          have hjl := (List.getElem?_eq_some_iff.mp c).1
          show some (kf (.ref b)) = _
          rw [kfa j b c, List.getD_eq_getElem?_getD, List.getElem?_eq_getElem (by omega)]
          rfl
      rw [e2] at e
      exact e
    · have hs := h1
      rw [hout] at hs
      unfold SrtO.Srtd at hs
      rw [List.pairwise_map] at hs
      rw [List.pairwise_map]
      refine hs.imp fun {x y} h => ?_
      have := SrtO.lexB_no.mp h
      unfold leP
      show (kf (.ref x)).1 < (kf (.ref y)).1 ∨ ((kf (.ref x)).1 = (kf (.ref y)).1 ∧ (kf (.ref x)).2 ≤ (kf (.ref y)).2)
      omega
    · have ta : t ∈ as := tperm.mem_iff.mp (List.mem_of_getElem? hi)
      obtain ⟨vs', ⟨j, g', j1, j2, ev⟩, hH⟩ := qt t ta
      refine ⟨I.hok.fresh (Nat.le_of_lt (hG.above t ta)), ?_⟩
      have e3 : ((out.map adr).map fun b => kf (.ref b)).getD i (0, 0) = g' := by
        rw [List.getD_eq_getElem?_getD, List.getElem?_map, hi]
        show kf (.ref t) = g'
        rw [kfa j t j1, List.getD_eq_getElem?_getD, j2]
        rfl
      unfold PairAt
      rw [e3, hH, ev]
end
/-! ### xs[:1] = ys -/
theorem bounds_head (n : Nat) : sliceBounds none (some 1) none n = (((0 : Nat) : Int), ((min 1 n : Nat) : Int), 1) := by
  unfold sliceBounds
  simp
  omega
section
variable {prog : Program} {w : World} {A : Around} {s : Shared} {E : Value → Shared → Prop}
theorem setItem_head {l b sl : Addr} {items new : Array Value} {n n2 : Nat} {vl vu : Value} {Q : Unit → Shared → Prop}
    (e : s.heap.get? l = some { cls := .type "list", data := .seq items n }) (e2 : s.heap.get? b = some { cls := .type "list", data := .seq new n2 }) (hne : l ≠ b)
    (hs : s.heap.IsSliceOf sl vl vu .none) (pl : IsPart vl none) (pu : IsPart vu (some 1))
    (hsz : items.size + new.size ≤ sizeLine) (h : Q () { s with heap := s.heap.update l (Obj.mapSeq fun xs => xs.extract 0 0 ++ new ++ xs.extract (min 1 items.size) xs.size) }) :
    wpAny (model prog w) A (setItem (.ref l) (.ref sl) (.ref b)) Q E s := by
  have hl : s.heap.IsList l items := PySem.IsL.isList e
  have hb : s.heap.IsList b new := PySem.IsL.isList e2
  obtain ⟨os, hos, hcs, hds⟩ := id hs
  have hTs : s.TypeIs (.ref sl) "slice" := ⟨os, hos, hcs⟩
  have hstep : ¬ ((rawPart none == rawInt 0) = true) := Bool.false_ne_true
  have hsame : Builtin.List.listSameRef (.ref l) (.ref b) = false := by
    unfold Builtin.List.listSameRef
    exact beq_eq_false_iff_ne.mpr hne
  have hmax : (max ((0 : Nat) : Int) ((min 1 items.size : Nat) : Int)).toNat = min 1 items.size := by omega
  have hz' : ((fun xs : Array Value => xs.extract 0 0 ++ new ++ xs.extract (min 1 items.size) xs.size) items).size ≤ sizeLine + 1 := by
    simp only [Array.size_append, Array.size_extract]
    omega
  unfold setItem
  try with_reducible refine wpAny_holding ?_
  first | refine wpAny_bind (wpAny_pure ?_) | skip
  refine wpAny_bind (wpAny_sequenceKey hl.typeIs (by decide) ?_)
  refine wpAny_bind (wpAny_callSpecial?_slot (name := Str.ofString "__setitem__") hl.typeIs slot_list_setitem
    (wpAny_call_entry slot_list_setitem hl.typeIs entry_list_setitem ?_ (args_list_setitem _ _ _)))
  show wpAny _ _ (Builtin.List.listSubscript? (.ref sl) >>= _) _ _ s
  refine wpAny_bind ?_
  unfold Builtin.List.listSubscript?
  refine wpAny_bind (wpAny_specialOf hTs slice_no_index ?_)
  simp only [Option.isNone_none, if_true]
  refine wpAny_pure ?_
  show wpAny _ _ (typeOf (.ref sl) >>= _) _ _ s
  refine wpAny_bind (wpAny_typeOf hTs ?_)
  first
    | rw [if_neg (by decide)]
    | refine PySem.W.KFB.if_not (by decide) ?_
  rw [listSliceParts_eq]
  refine wpAny_bind (wpAny_bind (wpAny_field hos hds (x := .none) rfl (wpAny_bind (wpAny_listPart .none ?_))))
  rw [if_neg hstep]
  refine wpAny_bind (wpAny_field hos hds (x := vl) rfl (wpAny_bind (wpAny_listPart pl ?_)))
  refine wpAny_bind (wpAny_field hos hds (x := vu) rfl (wpAny_bind (wpAny_listPart pu (wpAny_pure ?_))))
  first
    | simp only [hsame, Bool.false_eq_true, if_false]
    | refine PySem.W.KFB.if_not hsame ?_
    | (dsimp only
       rw [if_neg (by rw [hsame]; exact Bool.false_ne_true)])
  refine wpAny_bind (m := Builtin.List.listAllItems (.ref b) "must assign iterable to extended slice") ?_
  unfold Builtin.List.listAllItems
  refine wpAny_bind (wpAny_typeOf hb.typeIs ?_)
  first
    | refine PySem.W.KFB.if_so (by decide) ?_
    | rw [if_pos (by decide)]
    | simp only [beq_self_eq_true, Bool.true_or, if_true]
  unfold Builtin.List.listItems
  refine wpAny_bind (wpAny_seqItems e2 rfl (wpAny_pure ?_))
  refine wpAny_bind (wpAny_bind (wpAny_seqItems e rfl (wpAny_pure ?_)))
  refine wpAny_bind (wpAny_of_eq ((sliceIndices_raw none (some 1) none items.size (by simp)).trans (congrArg (pure : Int × Int × Int → Sem (Int × Int × Int)) (bounds_head items.size))) ?_)
  show wpAny _ _ (if ((1 : Int) == 1) = true then _ else _) _ _ s
  rw [if_pos (by decide)]
  refine wpAny_bind (wpAny_rule ?_)
  first
    | simp only [notLongL hsz, Bool.false_eq_true, if_false]
    | refine PySem.W.KFB.if_not (notLongL hsz) ?_
  first | refine wpAny_bind (wpAny_pure ?_) | skip
  show wpAny _ _ (updateSeq l (fun xs => xs.extract 0 ((0 : Nat) : Int).toNat ++ new ++ xs.extract (max ((0 : Nat) : Int) ((min 1 items.size : Nat) : Int)).toNat xs.size) >>= _) _ _ s
  rw [hmax, Int.toNat_natCast]
  refine wpAny_bind (wpAny_updateSeq (hz := Nat.le_trans (Nat.le_add_right _ _) hsz) (_hz' := hz') e rfl ?_)
  refine wpAny_bind (wpAny_letGo ?_)
  first
    | exact wpAny_bind (wpAny_pure (wpAny_pure ⟨.none, rfl, wpAny_pure h⟩))
    | exact wpAny_pure ⟨.none, rfl, wpAny_pure h⟩
end
section
variable {X : Cx} {o e : Expr} {to : TE} {p2 pos : Pos}
/-- o[:1] = v, both lists -/
def gHead (to : TE) : TG := fun v σ H QG => to σ H fun x H1 => ∃ a b xs ys, x = .ref a ∧ v = .ref b ∧ a ≠ b ∧ H1 a = some (.lst xs) ∧ H1 b = some (.lst ys) ∧ xs.length + ys.length ≤ sizeLine ∧ QG σ (upd H1 a (.lst (ys ++ xs.drop 1)))
theorem set_head {pins : List (Addr × Obj)} {s : Shared} {σ : L2.St} {H : Hp} {l b sl : Addr} {xs ys : List V} {vl vu : Value} {Q : Unit → Shared → Prop} (I : Inv X pins σ H s)
    (hH : H l = some (.lst xs)) (hB : H b = some (.lst ys)) (hne : l ≠ b) (hs : s.heap.IsSliceOf sl vl vu .none) (pl : IsPart vl none) (pu : IsPart vu (some 1))
    (hz : xs.length + ys.length ≤ sizeLine) (h : ∀ s', Inv X pins σ (upd H l (.lst (ys ++ xs.drop 1))) s' → Q () s') :
    wpAny (model X.prog X.w) X.A (setItem (.ref l) (.ref sl) (.ref b)) Q X.xe s := by
  obtain ⟨z, its, n, r, hl, e⟩ := I.lstM hH
  obtain ⟨z2, its2, n2, r2, hl2, e2⟩ := I.lstM hB
  refine setItem_head e e2 hne hs pl pu (by rw [List.size_toArray, List.size_toArray]; omega) (h _ ?_)
  have ed : ∀ {α : Type} (zs : List α), zs.drop (min 1 zs.length) = zs.drop 1 := fun zs => by
    cases zs with
    | nil => rfl
    | cons a zs => rw [List.length_cons, show min 1 (zs.length + 1) = 1 by omega]
  have er : ys ++ xs.drop 1 = xs.take 0 ++ ys ++ xs.drop (min 1 xs.length) := by rw [ed, List.take_zero, List.nil_append]
  rw [er]
  refine I.lset (its' := its.take 0 ++ its2 ++ its.drop (min 1 its.length)) (t' := s.toks) hH e ?_ (Vals.append (Vals.append (r.take _) r2) (by rw [r.length]; exact r.drop _)) ?_
  · rw [List.size_toArray]
    exact splice_eq its its2 0 (min 1 its.length)
  · rw [List.length_append, List.length_append, List.length_take, List.length_drop]
    omega
theorem pg_head {k1 : Nat} {p3 : Pos} (ho : PE X o to)
    (ha0 : ∀ v, assign (.Subscript o (.Slice none (some (.Constant (.int 1) k1 p3)) none p2) pos) X.env v = (do
      let ov ← holding [v] (eval o X.env)
      let iv ← holding [v, ov] (eval (.Slice none (some (.Constant (.int 1) k1 p3)) none p2) X.env)
      standAt pos
      holding [v, ov, iv] (setItem ov iv v)
      release [iv, v, ov] []) := by intro _; rfl) : PG X (.Subscript o (.Slice none (some (.Constant (.int 1) k1 p3)) none p2) pos) (gHead to) := by
  refine ⟨fun pins s σ H v u Q I r h => ?_⟩
  rw [ha0]
  refine wpAny_bind (wpAny_holding (thn (ho.run pins s σ H _ I h) fun ov s1 ⟨x, H1, I1, r1, q1⟩ => ?_))
  obtain ⟨a, b, xs, ys, rfl, rfl, hne, ha, hb, hz, q⟩ := q1
  cases r1
  cases r
  refine wpAny_bind (wpAny_holding ?_)
  refine wpAny_Slice ?_
  rw [evalPart_none]
  refine wpAny_pure ?_
  rw [evalPart_some]
  refine thn ((pe_int (X := X) (i := 1)).run pins s1 σ H1 (fun v H' => v = .int 1 ∧ H' = H1) I1 ⟨rfl, rfl⟩) fun u s2 ⟨x, H2, I2, r2, ex, eH⟩ => ?_
  subst ex
  subst eH
  obtain ⟨t, rfl⟩ := r2
  refine wpAny_pure ?_
  have I4 : Inv X pins σ H2 { s2 with heap := s2.heap.push { cls := .type "slice", data := .fields #[.none, .int 1 t, .none] } } := I2.kept (t' := s2.toks) fun b ob q => Heap.get?_push_of_some _ q
  refine wpAny_bind (wpAny_standAt (wpAny_bind (wpAny_holding ?_)))
  refine set_head I4 ha hb hne (Heap.IsSliceOf.new ..) .none (.int _ _) hz fun s' I5 => ?_
  exact wpAny_release ⟨σ, _, I5, q⟩
theorem x_ghead {σ : L2.St} {H : Hp} {v : V} {QG : L2.St → Hp → Prop} : gHead to v σ H QG = to σ H fun x H1 => ∃ a b xs ys, x = .ref a ∧ v = .ref b ∧ a ≠ b ∧ H1 a = some (.lst xs) ∧ H1 b = some (.lst ys) ∧ xs.length + ys.length ≤ sizeLine ∧ QG σ (upd H1 a (.lst (ys ++ xs.drop 1))) := rfl
end
/-! ### comprehensions over pairs -/
section
variable {K : PySem.W.Frag} {σ : L2.St} {H1 : Hp} {g : TG} {tt : TT} {te : TE} {vs : List Nat} {Dl : Addr} {Q : VK}
/-- the items of a list or a tuple are pairs -/
theorem lc_pairs {a : Addr} {J : It} {ts : List Addr} {u v : Nat → V} {j k : Nat} (hJ : (J = Itl K a ∧ SqL K H1 a (ts.map V.ref)) ∨ (J = Itt K a ∧ SqT K H1 a (ts.map V.ref))) (hp : ∀ i t, ts[i]? = some t → H1 t = some (.tup [u i, v i])) (keep : Nat → Bool) (f : Nat → V) (hD : H1 Dl = none) (hn : ts.length ≤ 100000)
    (hw : ∀ x y : V, wipe (((wipe σ vs).set j (some x)).set k (some y)) vs = wipe σ vs)
    (ht : ∀ i, i < ts.length → Evl.EvT tt (((wipe σ vs).set j (some (u i))).set k (some (v i))) H1 (keep i))
    (he : ∀ i, i < ts.length → keep i = true → Evl.Ev te (((wipe σ vs).set j (some (u i))).set k (some (v i))) H1 (f i))
    (hd : ∀ H', Evl.Ex H1 H' → H' Dl = some (.lst (kept ts.length keep f)) → Q (.ref Dl) H') : LcG J (gTup K 2 (gCons (gName j) (gCons (gName k) gNil))) tt te vs σ Dl H1 Q := by
  have gt : ∀ i, i < ts.length → ts[i]? = some (ts.getD i 0) := fun i hi => by rw [List.getD_eq_getElem?_getD, List.getElem?_eq_getElem hi]; rfl
  have fin : ∀ (i : Nat) (H' : Hp) (x : V) (QG : L2.St → Hp → Prop), i < ts.length → Evl.Ex H1 H' → (ts.map V.ref)[i]? = some x → (Evl.Ex H' H' → QG (((wipe σ vs).set j (some (u i))).set k (some (v i))) H') → gTup K 2 (gCons (gName j) (gCons (gName k) gNil)) x (wipe σ vs) H' QG := fun i H' x QG hi e hx q => by
    rw [List.getElem?_map, gt i hi] at hx
    cases hx
    exact g_two (e _ _ (hp i _ (gt i hi))) (q (Ex.refl _))
  rcases hJ with ⟨rfl, hx⟩ | ⟨rfl, hx⟩
  · refine lc_pure ts.length (fun i => ((wipe σ vs).set j (some (u i))).set k (some (v i))) keep f hD hn (fun H' e => ⟨_, Evl.ex_l e hx, by rw [List.length_map]; exact Nat.le_refl _⟩) (fun i H' hi e => ⟨_, _, Evl.ex_l e hx, by rw [List.getElem?_map, gt i hi]; rfl⟩)
      (fun i H' x H'' QG hi e y q => ?_) (fun i hi => hw _ _) ht he hd
    obtain ⟨rfl, hf⟩ := y
    exact fin i _ _ QG hi e (hf _ (Evl.ex_l e hx)) q
  · refine lc_pure ts.length (fun i => ((wipe σ vs).set j (some (u i))).set k (some (v i))) keep f hD hn (fun H' e => ⟨_, Evl.ex_t e hx, by rw [List.length_map]; exact Nat.le_refl _⟩) (fun i H' hi e => ⟨_, _, Evl.ex_t e hx, by rw [List.getElem?_map, gt i hi]; rfl⟩)
      (fun i H' x H'' QG hi e y q => ?_) (fun i hi => hw _ _) ht he hd
    obtain ⟨rfl, hf⟩ := y
    exact fin i _ _ QG hi e (hf _ (Evl.ex_t e hx)) q
/-- zip of two lists, the second not longer -/
theorem lc_zipS {a b : Addr} {xs ys : List V} {j k : Nat} (keep : Nat → Bool) (f : Nat → V) (hx : SqL K H1 a xs) (hy : SqL K H1 b ys) (he0 : ys.length ≤ xs.length) (hD : H1 Dl = none) (hn : ys.length ≤ 100000)
    (hw : ∀ u v : V, wipe (((wipe σ vs).set j (some u)).set k (some v)) vs = wipe σ vs)
    (ht : ∀ i x y, xs[i]? = some x → ys[i]? = some y → Evl.EvT tt (((wipe σ vs).set j (some x)).set k (some y)) H1 (keep i))
    (he : ∀ i x y, xs[i]? = some x → ys[i]? = some y → keep i = true → Evl.Ev te (((wipe σ vs).set j (some x)).set k (some y)) H1 (f i))
    (hd : ∀ H', Evl.Ex H1 H' → H' Dl = some (.lst (kept ys.length keep f)) → Q (.ref Dl) H') : LcG (Itz K a b) (gTup K 2 (gCons (gName j) (gCons (gName k) gNil))) tt te vs σ Dl H1 Q := by
  have gx : ∀ i, i < ys.length → xs[i]? = some (xs.getD i .non) := fun i hi => by rw [List.getD_eq_getElem?_getD, List.getElem?_eq_getElem (by omega)]; rfl
  have gy : ∀ i, i < ys.length → ys[i]? = some (ys.getD i .non) := fun i hi => by rw [List.getD_eq_getElem?_getD, List.getElem?_eq_getElem hi]; rfl
  refine lc_pure ys.length (fun i => ((wipe σ vs).set j (some (xs.getD i .non))).set k (some (ys.getD i .non))) keep f hD hn (fun H' e => ⟨xs, ys, Evl.ex_l e hx, Evl.ex_l e hy, ?_⟩)
    (fun i H' hi e => ⟨xs, ys, _, _, Evl.ex_l e hx, Evl.ex_l e hy, gx i hi, gy i hi⟩)
    (fun i H' x H'' QG hi e y q => ?_) (fun i hi => hw _ _) (fun i hi => ht i _ _ (gx i hi) (gy i hi)) (fun i hi => he i _ _ (gx i hi) (gy i hi)) hd
  · first | exact .inr (Nat.le_refl _) | exact .inr ⟨by omega, Nat.le_refl _⟩ | (simp; omega)
  obtain ⟨T, u, v, rfl, hT, rfl, hf, hf2⟩ := y
  have hu := hf xs (Evl.ex_l e hx)
  have hv := hf2 ys (Evl.ex_l e hy)
  have e1 : xs.getD i .non = u := by rw [List.getD_eq_getElem?_getD, hu]; rfl
  have e2 : ys.getD i .non = v := by rw [List.getD_eq_getElem?_getD, hv]; rfl
  refine g_two upd_same ?_
  have q2 := q (Evl.Ex.new hT)
  rw [e1, e2] at q2
  exact q2
end
/-! ### dict(pairs), sorted(d) -/
section
variable {K : PySem.W.Frag}
theorem putK_end {kvs : List (Key × V)} {k : Key} {v : V} (h : k ∉ kvs.map (·.1)) : putK kvs k v = kvs ++ [(k, v)] := by
  unfold putK
  rw [if_neg]
  intro e
  obtain ⟨p, hp, e⟩ := List.any_eq_true.mp e
  exact h (List.mem_map.mpr ⟨p, hp, of_decide_eq_true e⟩)
theorem mergeK_nodup : ∀ (more kvs : List (Key × V)), ((kvs ++ more).map (·.1)).Nodup → mergeK kvs more = kvs ++ more
  | [], kvs, _ => by rw [List.append_nil]; rfl
  | p :: more, kvs, h => by
    have hn : p.1 ∉ kvs.map (·.1) := fun hm => by
      rw [List.map_append, List.nodup_append] at h
      exact h.2.2 p.1 hm p.1 (by simp) rfl
    show mergeK (putK kvs p.1 p.2) more = _
    rw [putK_end hn, mergeK_nodup more _ (by rw [List.append_assoc]; exact h)]
    simp
theorem nodup_itK {qs : List (Int × Int)} (h : (qs.map (·.1)).Nodup) : ((qs.map itK).map (·.1)).Nodup := by
  have e : (qs.map itK).map (·.1) = (qs.map (·.1)).map Sum.inl := by rw [List.map_map, List.map_map]; rfl
  rw [e, List.nodup_iff_pairwise_ne, List.pairwise_map]
  exact h.imp fun h e => h (Sum.inl.inj e)
/-- what the list of pairs at a reads -/
def PairsAt (K : PySem.W.Frag) (H : Hp) (a : Addr) (ts : List Addr) (qs : List (Int × Int)) : Prop := SqL K H a (ts.map V.ref) ∧ ts.length = qs.length ∧ ∀ i t, ts[i]? = some t → PairAt H t (qs.getD i (0, 0))
theorem PairsAt.ex {H H' : Hp} {a : Addr} {ts : List Addr} {qs : List (Int × Int)} (h : PairsAt K H a ts qs) (e : Ex H H') : PairsAt K H' a ts qs := ⟨ex_l e h.1, h.2.1, fun i t hi => e _ _ (h.2.2 i t hi)⟩
def rDictI (K : PySem.W.Frag) : List V → Hp → VK → Prop := fun xs H Q => ∃ (a : Addr) (ts : List Addr) (qs : List (Int × Int)), xs = [.ref a] ∧ PairsAt K H a ts qs ∧ (qs.map (·.1)).Nodup ∧ ∀ p, H p = none → Q (.ref p) (upd H p (.dK (qs.map itK)))
theorem paired_of {H : Hp} : ∀ {ts : List Addr} {qs : List (Int × Int)}, ts.length = qs.length → (∀ (i : Nat) t, ts[i]? = some t → PairAt H t (qs.getD i (0, 0))) → Paired (fun p kv => SqT K H p [kV kv.1, kv.2]) ts (qs.map itK)
  | [], [], _, _ => .nil
  | [], _ :: _, h, _ => by simp at h
  | _ :: _, [], h, _ => by simp at h
  | t :: ts, q :: qs, h, hp => .cons (.inl (.inl (hp 0 t rfl))) (paired_of (by simpa using h) fun i u hi => by
    have := hp (i + 1) u (by simpa using hi)
    simpa using this)
theorem k_dictP {X : Cx} (hK : X.K = K) (hc : X.calm = true) : CallR X (.type "dict") (rDictI K) := by
  subst hK
  intro pins s σ H xs us Q I r h
  obtain ⟨a, ts, qs, rfl, ⟨hs, hl, hp⟩, nd, q⟩ := h
  refine call_dictP hc pins s σ H _ us Q I r ⟨a, ts, qs.map itK, rfl, hs, paired_of hl hp, fun p np => ?_⟩
  have e : mergeK [] (qs.map itK) = qs.map itK := by rw [mergeK_nodup _ _ (by simpa using nodup_itK nd)]; rfl
  rw [e]
  exact q p np
def rSortDI : List V → Hp → VK → Prop := fun xs H Q => ∃ (a : Addr) (kvs : List (Key × V)) (ks : List Int), xs = [.ref a] ∧ Rd H a (.dK kvs) ∧ kvs.map (·.1) = ks.map Sum.inl ∧ ks.length < 64 ∧
    ∀ (ys : List Int) (p : Addr), ys.Perm ks → ys.Pairwise (· ≤ ·) → H p = none → Q (.ref p) (upd H p (.lst (ys.map V.int)))
theorem cr_sortDI {X : Cx} (hc : X.calm = true) : CallR X (.builtin "sorted") rSortDI := call_sortedDI hc
theorem tyD {H : Hp} {p : Addr} {kvs : List (Key × V)} (h : H p = some (.dK kvs)) : tyV K "dict" (.ref p) H := .inr (.inr (.inl ⟨rfl, .inl ⟨kvs, h⟩⟩))
theorem valV_itK {qs : List (Int × Int)} (nd : (qs.map (·.1)).Nodup) {x y : Int} (h : (x, y) ∈ qs) : valV (qs.map itK) (Sum.inl x) = some (.int y) := by
  induction qs with
  | nil => exact (List.not_mem_nil h).elim
  | cons q qs ih =>
    rw [List.map_cons, List.nodup_cons] at nd
    rw [List.map_cons]
    rcases List.mem_cons.mp h with e | h
    · subst e
      exact valV_pos rfl
    · have ne : q.1 ≠ x := fun e => nd.1 (List.mem_map.mpr ⟨(x, y), h, e.symm⟩)
      rw [valV_neg (by show ¬ (Sum.inl q.1 : Key) = Sum.inl x; exact fun e => ne (Sum.inl.inj e))]
      exact ih nd.2 h
theorem valV_itK_none {qs : List (Int × Int)} {x : Int} (h : x ∉ qs.map (·.1)) : valV (qs.map itK) (Sum.inl x) = none := by
  induction qs with
  | nil => rfl
  | cons q qs ih =>
    rw [List.map_cons, List.mem_cons, not_or] at h
    rw [List.map_cons, valV_neg (by show ¬ (Sum.inl q.1 : Key) = Sum.inl x; exact fun e => h.1 (Sum.inl.inj e).symm)]
    exact ih h.2
end
/-! ### readings -/
section
variable {K : PySem.W.Frag} {σ : L2.St} {H : Hp} {Q : VK} {ta tv : TE} {a : TA} {D : Ends} {f : Str} {C : Addr} {sp : Sp} {dvs : List V} {E : XK}
theorem x_fld : tFld K ta f σ H Q = ta σ H (fun x H1 => ∃ a C dx fs v, x = .ref a ∧ H1 a = some (.ins C dx fs) ∧ Cls K C ∧ NoAttr K C f ∧ fs.lookup f = some v ∧ Q v H1) := rfl
theorem x_sfld : sFld K ta tv f D σ H = tv σ H (fun y H1 => ta σ H1 fun x H2 => ∃ a C dx fs, x = .ref a ∧ H2 a = some (.ins C dx fs) ∧ Cls K C ∧ NoAttr K C f ∧ fs.length < 1000 ∧ D.nx σ (upd H2 a (.ins C dx (putF f y fs)))) := rfl
theorem x_prop : tProp C sp dvs E ta σ H Q = ta σ H (fun x H1 => ∃ a dx fs, x = .ref a ∧ H1 a = some (.ins C dx fs) ∧ sp (.ref a :: dvs) H1 Q E) := rfl
theorem x_meth {m : Str} {t : TA} : tMeth C m sp dvs E ta t σ H Q = ta σ H (fun x H1 => ∃ a dx fs, x = .ref a ∧ H1 a = some (.ins C dx fs) ∧ fs.lookup m = none ∧ t σ H1 fun vs H2 => sp (x :: (vs ++ dvs)) H2 Q E) := rfl
theorem x_make : tMake C sp dvs E a σ H Q = a σ H (fun vs H1 => ∀ x dx, H1 x = none → H1 dx = none → dx ≠ x → sp (.ref x :: (vs ++ dvs)) (upd (upd H1 dx (.own x)) x (.ins C dx [])) (fun v H2 => v = .non ∧ Q (.ref x) H2) E) := rfl
theorem k_fld {X : Cx} {e : Expr} {pos : Pos} (hK : X.K = K) (he : PE X e ta) (hb : attributeBase e f X.env (eval e X.env) = eval e X.env) : PE X (.Attribute e f pos) (tFld K ta f) := by subst hK; exact pe_fld he hb
theorem k_sfld {X : Cx} {o value : Expr} {pos' pos : Pos} (hK : X.K = K) (ha : PE X o ta) (hv : PE X value tv) (hs : swapsWith value (some (.Attribute o f pos')) pos.line X.env = pure false) : PS X (.Assign [.Attribute o f pos'] value pos) (sFld K ta tv f) := by subst hK; exact ps_fld ha hv hs
def DcG (J : It) (g : TG) (tt : TT) (tk tv : TE) (vs : List Nat) (σ : L2.St) (D : Addr) (H1 : Hp) (Q : VK) : Prop := ∃ W : Nat → Nat → Hp → Prop, (∃ m, W 0 m (upd H1 D (.dK []))) ∧ ∀ i m H, W i m H →
  (J.stop i H ∧ Q (.ref D) H) ∨ (J.go i H ∧ ∃ Nx : Hp → Prop, (∀ H', Nx H' → ∃ m', m' < m ∧ W (i + 1) m' H') ∧ ∀ x H', J.yld i H x H' → g x (wipe σ vs) H' fun σ2 H2 => wipe σ2 vs = wipe σ vs ∧ tt σ2 H2 fun b H3 =>
    if b = true then tk σ2 H3 fun y H4 => tv σ2 H4 fun z H5 => ∃ kvs k, y = kV k ∧ H5 D = some (.dK kvs) ∧ kvs.length < sizeLine ∧ Nx (upd H5 D (.dK (putK kvs k z))) else Nx H3)
theorem x_dc {wi : TI} {g : TG} {tt : TT} {tk tv : TE} {vs : List Nat} : tDc wi g tt tk tv vs σ H Q = wi σ H (fun J H1 => ∀ D, H1 D = none → DcG J g tt tk tv vs σ D H1 Q) := rfl
theorem dcg_tup {a : Addr} {xs : List V} {g : TG} {tt : TT} {tk tv : TE} {vs : List Nat} {H1 : Hp} {D : Addr} (Pv : Nat → Hp → Prop) (h0 : Pv 0 (upd H1 D (.dK []))) (hl : ∀ i H, i ≤ xs.length → Pv i H → SqT K H a xs)
    (hs : ∀ i x H, xs[i]? = some x → Pv i H → g x (wipe σ vs) H fun σ2 H2 => wipe σ2 vs = wipe σ vs ∧ tt σ2 H2 fun b H3 =>
      if b = true then tk σ2 H3 fun y H4 => tv σ2 H4 fun z H5 => ∃ kvs k, y = kV k ∧ H5 D = some (.dK kvs) ∧ kvs.length < sizeLine ∧ Pv (i + 1) (upd H5 D (.dK (putK kvs k z))) else Pv (i + 1) H3) (hd : ∀ H, Pv xs.length H → Q (.ref D) H) : DcG (Itt K a) g tt tk tv vs σ D H1 Q := dc_tup (Qd := fun H => Q (.ref D) H) Pv h0 hl hs hd
end
theorem lg_zip {K : PySem.W.Frag} {a b : Addr} {xs ys : List V} {g : TG} {tb : TS} {D : Ends} {σ : L2.St} {H : Hp} (hl : xs.length = ys.length) (Pv : Nat → L2.St → Hp → Prop) (h0 : Pv 0 σ H) (hq : ∀ i σ H, Pv i σ H → SqL K H a xs ∧ SqL K H b ys)
    (hs : ∀ (i : Nat) (x y : V) (T : Addr) (σ : L2.St) (H : Hp), xs[i]? = some x → ys[i]? = some y → Pv i σ H → H T = none → g (.ref T) σ (upd H T (.tup [x, y])) fun σ2 H2 => tb { D with nx := Pv (i + 1), ct := Pv (i + 1), bk := D.nx } σ2 H2) (hd : ∀ σ H, Pv xs.length σ H → D.nx σ H) : LoopG (Itz K a b) g tb D σ H := RZ.for_zipL hl Pv h0 hq hs hd
/-! ### what comes behind each visit -/
def seconds (row : List Int) : List Int := row.drop 1 ++ row.drop (row.length - 1)
theorem cut_drop1 (row : List Int) : cutV (row.map V.int) (some 1) none = (row.drop 1).map V.int := by
    cases row with
    | nil => rfl
    | cons a r =>
      have e : HT.sIx ((a :: r).map V.int).length 0 (some 1) = 1 := by
        show (if (1 : Int) < 0 then ((1 : Int) + (((a :: r).map V.int).length : Int)).toNat else min (1 : Int).toNat ((a :: r).map V.int).length) = 1
        rw [if_neg (by omega), List.length_map, List.length_cons]
        show min 1 (r.length + 1) = 1
        omega
      unfold cutV
      rw [e, HT.sIx_none, List.map_drop, List.take_of_length_le (by rw [List.length_drop]; exact Nat.le_refl _)]
theorem cut_seconds (row : List Int) : cutV (row.map V.int) (some 1) none ++ cutV (row.map V.int) (some (-1)) none = (seconds row).map V.int := by
  have h1 : cutV (row.map V.int) (some 1) none = (row.drop 1).map V.int := by
    unfold cutV
    cases row with
    | nil => rfl
    | cons a r =>
      have e : HT.sIx ((a :: r).map V.int).length 0 (some 1) = 1 := by
        show (if (1 : Int) < 0 then ((1 : Int) + (((a :: r).map V.int).length : Int)).toNat else min (1 : Int).toNat ((a :: r).map V.int).length) = 1
        rw [if_neg (by omega), List.length_map, List.length_cons]
        show min 1 (r.length + 1) = 1
        omega
      rw [e, HT.sIx_none, List.map_drop, List.take_of_length_le (by rw [List.length_drop]; exact Nat.le_refl _)]
  have h2 : cutV (row.map V.int) (some (-1)) none = (row.drop (row.length - 1)).map V.int := by
    have e : HT.sIx (row.map V.int).length 0 (some (-1)) = row.length - 1 := by
      show (if (-1 : Int) < 0 then ((-1 : Int) + ((row.map V.int).length : Int)).toNat else min (-1 : Int).toNat (row.map V.int).length) = _
      rw [if_pos (by omega), List.length_map]
      omega
    unfold cutV
    rw [e, HT.sIx_none, List.map_drop, List.take_of_length_le]
    rw [List.length_drop, List.length_map]
    exact Nat.le_refl _
  rw [h1, h2, seconds, List.map_append]
theorem seconds_len (row : List Int) : (seconds row).length = row.length := by
  unfold seconds
  rw [List.length_append, List.length_drop, List.length_drop]
  omega
theorem seconds_at {row : List Int} {i : Nat} (hi : i < row.length) : (seconds row)[i]? = some ((row.drop (i + 1)).headD (row.getD i 0)) := by
  unfold seconds
  by_cases c : i + 1 < row.length
  · rw [List.getElem?_append_left (by rw [List.length_drop]; omega), List.getElem?_drop, List.headD_eq_head?_getD, List.head?_drop, Nat.add_comm 1 i, List.getElem?_eq_getElem c]
    rfl
  · rw [List.getElem?_append_right (by rw [List.length_drop]; omega), List.length_drop, List.getElem?_drop, List.drop_eq_nil_of_le (by omega), show row.length - 1 + (i - (row.length - 1)) = i by omega, List.getD_eq_getElem?_getD, List.getElem?_eq_getElem hi]
    rfl
theorem ev_din {ty td : TE} {σ : L2.St} {H : Hp} {d : Addr} {kvs : List (Key × V)} {k : Key} (hy : Ev ty σ H (kV k)) (hd : Ev td σ H (.ref d)) (h : H d = some (.dK kvs)) : Ev (tDIn ty td) σ H (.bl (valV kvs k).isSome) := fun H1 e Q q => hy H1 e _ fun H2 e2 => hd H2 (e.trans e2) _ fun H3 e3 => ⟨d, _, rfl, DGet.k (e3 _ _ (e2 _ _ (e _ _ h))), q H3 (e2.trans e3)⟩
theorem ev_dnotin {ty td : TE} {σ : L2.St} {H : Hp} {d : Addr} {kvs : List (Key × V)} {k : Key} (hy : Ev ty σ H (kV k)) (hd : Ev td σ H (.ref d)) (h : H d = some (.dK kvs)) : Ev (tDNotIn ty td) σ H (.bl (!(valV kvs k).isSome)) := fun H1 e Q q => hy H1 e _ fun H2 e2 => hd H2 (e.trans e2) _ fun H3 e3 => ⟨d, _, rfl, DGet.k (e3 _ _ (e2 _ _ (e _ _ h))), q H3 (e2.trans e3)⟩
theorem ev_dget {ty td : TE} {σ : L2.St} {H : Hp} {d : Addr} {kvs : List (Key × V)} {k : Key} {v : V} (hd : Ev td σ H (.ref d)) (hy : Ev ty σ H (kV k)) (h : H d = some (.dK kvs)) (hv : valV kvs k = some v) : Ev (tDGet td ty) σ H v := fun H1 e Q q => hd H1 e _ fun H2 e2 => hy H2 (e.trans e2) _ fun H3 e3 => ⟨d, v, rfl, .inl ⟨_, k, .inl (e3 _ _ (e2 _ _ (e _ _ h))), rfl, hv.symm⟩, q H3 (e2.trans e3)⟩
theorem putK_le (c : List (Key × V)) (k : Key) (x : V) : (putK c k x).length ≤ c.length + 1 := by
  unfold putK
  split
  · rw [List.length_map]; omega
  · rw [List.length_append, List.length_singleton]; omega
end BC

set_option Elab.async false
set_option linter.all false
set_option maxRecDepth 100000
set_option maxHeartbeats 4000000
/-! an own object is called -/
namespace BC
open PySem PySem.Spec PySem.Calls PyProof.Rows L2 Evl
section
variable {M : Model} {A : Around} {E : Value → Shared → Prop} {s : Shared} {env : Env} {pos : Pos} {x : Addr} {first : List Value} {Q : Value → Shared → Prop}
theorem callWith_own {args : List (Bool × Sem Value)} {keywords : List (Option Str × Sem Value)} (hplain : (args.any (·.1) || keywords.any (·.1.isNone)) = false)
    (h : wpAny M A (evalArgs (.ref x) true args keywords) (fun a s₁ => (∃ C ox od, PySem.W.InstAt s₁.heap x ox C od ∧ ox.data = .plain) ∧ wpAny M A (call (.ref x) (first ++ a.pos) a.kw) Q E s₁) E s) : wpAny M A (callWith pos (.ref x) first args keywords) Q E s := by
  unfold callWith
  refine wpAny_bind (wpAny_holding (wpAny_mono h (fun a s₁ h₁ => wpAny_bind (wpAny_standAt ?_)) fun _ _ y => y))
  obtain ⟨⟨C, ox, od, J, hd⟩, h2⟩ := h₁
  have L := PySem.W.kco_keeper (M := M) J hd
  simp only [hplain]
  refine wpAny_bind (L.here ?_)
  have tail : ∀ {t : Sem Value}, wpAny M A t Q E s₁ → wpAny M A (t >>= fun r => holding [r] point >>= fun _ => pure r) Q E s₁ :=
    fun ht => wpAny_bind (wpAny_mono ht (fun r s₂ hr => wpAny_bind (wpAny_holding (wpAny_point (wpAny_pure hr)))) fun _ _ y => y)
  exact tail (wpAny_operateT h2)
end
section
variable {X : Cx} {CX : CXT} {k : Nat} {f C a : Addr} {fd : FuncData} {ps ks : List Str} {sp : Sp} {E : XK} {x : Str} {p pos : Pos} {e : Expr} {es : List Expr} {kws : List Keyword} {tf : TE} {t tk : TA} {dvs : List V} {ds : List Value}
  {g : List Value → List Value → List Value} {gV : List V → List V → List V}
theorem inst_of {pins : List (Addr × Obj)} {σ : L2.St} {H : Hp} {s : Shared} (I : Inv X pins σ H s) {dx : Addr} {fs : List (Str × V)} (ea : H a = some (.ins C dx fs)) : ∃ ox od, PySem.W.InstAt s.heap a ox C od ∧ ox.data = .plain := by
  obtain ⟨mA, O, _, _, _, _⟩ := ins_get I.hok ea
  obtain ⟨od, J, _⟩ := O.look
  exact ⟨_, od, J, rfl⟩
structure CallOf (K : PySem.W.Frag) (C f : Addr) : Prop where
  hs : PySem.W.findIn K (.ref C) "__call__" = some (some (.ref f))
  hf : PySem.W.isFn K (.ref f) = true
  fn : PySem.W.fnIn K f = true
theorem run_own {pins : List (Addr × Obj)} {σ : L2.St} {H : Hp} {s : Shared} {Q : VK} {us : List Value} {vs : List V} (co : CallOf X.K C f) (F : FnOk X.prog X.w X.K X.mg X.base CX k f fd ps sp) (hr : Room k X.A) (hb : Binds X.K fd ps ds) (hd : Vals dvs ds) (hx : Passes CX X E)
    (I : Inv X pins σ H s) {dx : Addr} {fs : List (Str × V)} (ea : H a = some (.ins C dx fs)) (r : Vals vs us) (h : sp (.ref a :: (vs ++ dvs)) H Q E) : wpAny (model X.prog X.w) X.A (call (.ref a) us) (EP X pins σ Q) X.xe s := by
  obtain ⟨ox, od, J, hdt⟩ := inst_of I ea
  have r2 : Vals ((.ref a :: vs) ++ dvs) ((.ref a :: us) ++ ds) := Vals.append (.cons rfl r) hd
  have hl : ((.ref a :: us) ++ ds).length = ps.length := by rw [← r2.length]; exact F.len _ _ _ _ h
  refine wpAny_call (PySem.W.kco_code I.kIn J hdt co.hs co.hf co.fn ?_)
  refine codeAny_mono (F.run X.A X.stack s H ⟨.ref a :: us, []⟩ ((.ref a :: us) ++ ds) ((.ref a :: vs) ++ dvs) Q E hr I.env0 (hb s (.ref a :: us) I.kIn hl) r2 h) fun r s' hq => ?_
  cases r with
  | error e => exact hx pins σ H s e s' I hq
  | ok fl =>
    cases fl with
    | ret u => exact I.after hq
    | next => exact False.elim hq
    | brk => exact False.elim hq
    | cont => exact False.elim hq
theorem run_ownk {pins : List (Addr × Obj)} {σ : L2.St} {H : Hp} {s : Shared} {Q : VK} {us ws : List Value} {vs zs : List V} (co : CallOf X.K C f) (F : FnOk X.prog X.w X.K X.mg X.base CX k f fd ps sp) (hr : Room k X.A) (hb : KBinds X.K fd ps ks g gV) (hx : Passes CX X E)
    (I : Inv X pins σ H s) {dx : Addr} {fs : List (Str × V)} (ea : H a = some (.ins C dx fs)) (r : Vals vs us) (rz : Vals zs ws) (h : sp (gV (.ref a :: vs) zs) H Q E) : wpAny (model X.prog X.w) X.A (call (.ref a) us (ks.zip ws)) (EP X pins σ Q) X.xe s := by
  obtain ⟨ox, od, J, hdt⟩ := inst_of I ea
  have r2 := hb.rel (vs := .ref a :: vs) (us := .ref a :: us) (.cons rfl r) rz
  have hl : (g (.ref a :: us) ws).length = ps.length := by rw [← r2.length]; exact F.len _ _ _ _ h
  refine wpAny_call (PySem.W.kco_code I.kIn J hdt co.hs co.hf co.fn ?_)
  refine codeAny_mono (F.run X.A X.stack s H ⟨.ref a :: us, ks.zip ws⟩ (g (.ref a :: us) ws) (gV (.ref a :: vs) zs) Q E hr I.env0 (hb.to s (.ref a :: us) ws I.kIn hl) r2 h) fun r s' hq => ?_
  cases r with
  | error e => exact hx pins σ H s e s' I hq
  | ok fl =>
    cases fl with
    | ret u => exact I.after hq
    | next => exact False.elim hq
    | brk => exact False.elim hq
    | cont => exact False.elim hq
/-- o(e, ..) by the class's own __call__ -/
def tCallO (C : Addr) (sp : Sp) (dvs : List V) (E : XK) (tf : TE) (t : TA) : TE := fun σ H Q => tf σ H fun x H1 => ∃ a, x = .ref a ∧ t σ H1 fun vs H2 => (∃ dx fs, H2 a = some (.ins C dx fs)) ∧ sp (.ref a :: (vs ++ dvs)) H2 Q E
def tCallOK (C : Addr) (sp : Sp) (gV : List V → List V → List V) (E : XK) (tf : TE) (tk : TA) : TE := fun σ H Q => tf σ H fun x H1 => ∃ a, x = .ref a ∧ tk σ H1 fun zs H2 => (∃ dx fs, H2 a = some (.ins C dx fs)) ∧ sp (gV [.ref a] zs) H2 Q E
theorem pe_callO (hf : PE X (.Name x p) tf) (co : CallOf X.K C f) (F : FnOk X.prog X.w X.K X.mg X.base CX k f fd ps sp) (hr : Room k X.A) (hb : Binds X.K fd ps ds) (hd : Vals dvs ds) (hx : Passes CX X E) (ha : PA X (e :: es) t)
    (he : starEach (e :: es) X.env = (false, eval e X.env) :: starEach es X.env := by rfl) (hpl : (backTo pos (starEach es X.env)).any (·.1) = false := by rfl) : PE X (.Call (.Name x p) (e :: es) [] pos) (tCallO C sp dvs E tf t) := by
  refine ⟨fun pins s σ H Q I h => ?_⟩
  refine wpAny_Call_Name_kw (thn (hf.run pins s σ H _ I h) fun u s1 ⟨c, H1, I1, rc, a, ec, q1⟩ => ?_)
  subst ec
  obtain rfl : u = Value.ref a := rc
  have hh := thn (ha.run pos pins s1 σ H1 _ I1 q1) (Q' := fun vs s₁ => (∃ C ox od, PySem.W.InstAt s₁.heap a ox C od ∧ ox.data = .plain) ∧ wpAny (model X.prog X.w) X.A (call (.ref a) ([] ++ vs)) (EP X pins σ Q) X.xe s₁) fun us s2 ⟨vs, H2, I2, r, ⟨dx, fs, ea⟩, q2⟩ => by
    obtain ⟨ox, od, J, hdt⟩ := inst_of I2 ea
    exact ⟨⟨C, ox, od, J, hdt⟩, run_own co F hr hb hd hx I2 ea r q2⟩
  rw [he] at hh ⊢
  exact callWith_own (by show ((false || (backTo pos (starEach es X.env)).any (·.1)) || false) = false; rw [hpl]; rfl) (evalArgs_plain hh)
theorem pe_callOK0 (hf : PE X (.Name x p) tf) (co : CallOf X.K C f) (F : FnOk X.prog X.w X.K X.mg X.base CX k f fd ps sp) (hr : Room k X.A) (hb : KBinds X.K fd ps ks g gV) (hx : Passes CX X E) (hkw : PK X kws tk)
    (hall : (backToKw pos (keywordEach kws X.env)).all (·.1.isSome) = true := by rfl) (hks : (backToKw pos (keywordEach kws X.env)).filterMap (·.1) = ks := by rfl)
    (hpl : ((backTo pos (starEach [] X.env)).any (·.1) || (backToKw pos (keywordEach kws X.env)).any (·.1.isNone)) = false := by rfl) : PE X (.Call (.Name x p) [] kws pos) (tCallOK C sp gV E tf tk) := by
  refine ⟨fun pins s σ H Q I h => ?_⟩
  refine wpAny_Call_Name_kw (thn (hf.run pins s σ H _ I h) fun u s1 ⟨c, H1, I1, rc, a, ec, q1⟩ => ?_)
  subst ec
  obtain rfl : u = Value.ref a := rc
  have hh := thn (hkw.run pos pins s1 σ H1 _ I1 q1) (Q' := fun ws s₁ => (∃ C ox od, PySem.W.InstAt s₁.heap a ox C od ∧ ox.data = .plain) ∧ wpAny (model X.prog X.w) X.A (call (.ref a) ([] ++ []) (((backToKw pos (keywordEach kws X.env)).filterMap (·.1)).zip ws)) (EP X pins σ Q) X.xe s₁) fun ws s2 ⟨zs, H2, I2, rz, ⟨dx, fs, ea⟩, q2⟩ => by
    obtain ⟨ox, od, J, hdt⟩ := inst_of I2 ea
    refine ⟨⟨C, ox, od, J, hdt⟩, ?_⟩
    rw [hks]
    exact run_ownk (us := []) (vs := []) co F hr hb hx I2 ea .nil rz q2
  exact callWith_own hpl (evalArgs_kw2_nil hall hh)
theorem x_callO {σ : L2.St} {H : Hp} {Q : VK} : tCallO C sp dvs E tf t σ H Q = tf σ H (fun x H1 => ∃ a, x = .ref a ∧ t σ H1 fun vs H2 => (∃ dx fs, H2 a = some (.ins C dx fs)) ∧ sp (.ref a :: (vs ++ dvs)) H2 Q E) := rfl
theorem x_callOK {σ : L2.St} {H : Hp} {Q : VK} : tCallOK C sp gV E tf tk σ H Q = tf σ H (fun x H1 => ∃ a, x = .ref a ∧ tk σ H1 fun zs H2 => (∃ dx fs, H2 a = some (.ins C dx fs)) ∧ sp (gV [.ref a] zs) H2 Q E) := rfl
end
end BC

set_option Elab.async false
set_option linter.all false
set_option maxRecDepth 100000
set_option maxHeartbeats 4000000
/-! own objects: ==, !=, in, + -/
namespace BC
open PySem PySem.Spec PySem.Calls PyProof.Rows L2 Evl
theorem looks_of {X : Cx} {pins : List (Addr × Obj)} {σ : L2.St} {H : Hp} {s : Shared} {y : V} {u t : Value} (I : Inv X pins σ H s) (ry : RelV y u) (ty : TyX X.K H y t) (M : Model) : PySem.W.Looks M s.heap (typeOf u) t := by
  obtain ⟨P, Z, p, _⟩ := kit_of I ry ty
  exact Z.ty M s.heap I.kIn p
section
variable {X : Cx} {CX : CXT} {k : Nat} {f C : Addr} {fd : FuncData} {ps : List Str} {sp : Sp} {E : XK}
def rEqO (K : PySem.W.Frag) (C : Addr) (sp : Sp) (E : XK) : R2 := fun x y H Q => ∃ a dx fs t, x = .ref a ∧ H a = some (.ins C dx fs) ∧ TyX K H y t ∧ PySem.W.notFirst K C t = true ∧ sp [.ref a, y] H (fun v H' => ∃ b : Bool, v = .bl b ∧ Q (.bl b) H') E
theorem op_eqO (hs : PySem.W.findIn X.K (.ref C) "__eq__" = some (some (.ref f))) (hf : PySem.W.isFn X.K (.ref f) = true) (F : FnOk X.prog X.w X.K X.mg X.base CX k f fd ps sp) (hr : Room k X.A) (hu : X.A.units + 64 < cLine) (hb : Binds X.K fd ps []) (hx : Passes CX X E) : OpR X (compareOp .Eq) (rEqO X.K C sp E) := by
  intro pins s σ H x y v u Q I rx ry h
  obtain ⟨a, dx, fs, t, rfl, ea, ty, nf, h⟩ := h
  obtain rfl : v = Value.ref a := rx
  obtain ⟨ox, od, J, hdt⟩ := inst_of I ea
  obtain ⟨m, hF⟩ := I.fr
  refine PySem.W.cmp_K (op := .Eq) (by omega) hF I.ok.mod.kin J (looks_of I ry ty _) nf hs hf ?_
  refine thn (run_fn F hr hb .nil hx I (us := [.ref a, u]) (vs := [.ref a, y]) (.cons rfl (.cons ry .nil)) h) fun r s' hq => ?_
  obtain ⟨v', H', I', rv, b, rfl, q⟩ := hq
  obtain rfl : r = Value.bool b := rv
  exact ⟨.bl b, H', I', rfl, q⟩
def rInO (C : Addr) (sp : Sp) (E : XK) : R2 := fun x y H Q => ∃ a dx fs, y = .ref a ∧ H a = some (.ins C dx fs) ∧ sp [.ref a, x] H (fun v H' => ∃ b : Bool, v = .bl b ∧ Q (.bl b) H') E
theorem op_inO (hs : PySem.W.findIn X.K (.ref C) "__contains__" = some (some (.ref f))) (hf : PySem.W.isFn X.K (.ref f) = true) (F : FnOk X.prog X.w X.K X.mg X.base CX k f fd ps sp) (hr : Room k X.A) (hb : Binds X.K fd ps []) (hx : Passes CX X E) : OpR X (compareOp .In) (rInO C sp E) := by
  intro pins s σ H x y v u Q I rx ry h
  obtain ⟨a, dx, fs, rfl, ea, h⟩ := h
  obtain rfl : u = Value.ref a := ry
  obtain ⟨ox, od, J, hdt⟩ := inst_of I ea
  obtain ⟨m, hF⟩ := I.fr
  refine PySem.W.in_K hF I.ok.mod.kin J hs hf ?_
  refine thn (run_fn F hr hb .nil hx I (us := [.ref a, v]) (vs := [.ref a, x]) (.cons rfl (.cons rx .nil)) h) fun r s' hq => ?_
  obtain ⟨v', H', I', rv, b, rfl, q⟩ := hq
  obtain rfl : r = Value.bool b := rv
  show wpAny _ _ (pure b) _ _ _
  exact wpAny_pure ⟨.bl b, H', I', rfl, q⟩
def rAddO (C : Addr) (sp : Sp) (E : XK) : R2 := fun x y H Q => ∃ a b dx fs dx2 fs2, x = .ref a ∧ y = .ref b ∧ H a = some (.ins C dx fs) ∧ H b = some (.ins C dx2 fs2) ∧ sp [.ref a, .ref b] H (fun v H' => ∃ c : Addr, v = .ref c ∧ Q (.ref c) H') E
theorem op_addO (hs : PySem.W.findIn X.K (.ref C) (PySem.dunder Operator.Add.info.2) = some (some (.ref f))) (hf : PySem.W.isFn X.K (.ref f) = true) (sf : PySem.W.selfFirst X.K C = true) (F : FnOk X.prog X.w X.K X.mg X.base CX k f fd ps sp) (hr : Room k X.A) (hb : Binds X.K fd ps []) (hx : Passes CX X E) : OpR X (binaryOp .Add) (rAddO C sp E) := by
  intro pins s σ H x y v u Q I rx ry h
  obtain ⟨a, b, dx, fs, dx2, fs2, rfl, rfl, ea, eb, h⟩ := h
  obtain rfl : v = Value.ref a := rx
  obtain rfl : u = Value.ref b := ry
  obtain ⟨ox, od, J, hdt⟩ := inst_of I ea
  obtain ⟨ox2, od2, J2, hdt2⟩ := inst_of I eb
  obtain ⟨m, hF⟩ := I.fr
  refine PySem.W.binop_K hF I.ok.mod.kin J J2.type sf hs hf ?_
  refine thn (run_fn F hr hb .nil hx I (us := [.ref a, .ref b]) (vs := [.ref a, .ref b]) (.cons rfl (.cons rfl .nil)) h) fun r s' hq => ?_
  obtain ⟨v', H', I', rv, c, rfl, q⟩ := hq
  obtain rfl : r = Value.ref c := rv
  exact ⟨.ref c, H', I', rfl, q⟩
end
/-! ### != by object.__ne__ and the own __eq__ -/
section
open PySem.W
variable {prog : Program} {w : World} {A : Around} {E : Value → Shared → Prop} {s : Shared} {K : Frag} {x C f : Addr} {ox : Obj} {od : Option Obj} {b tb : Value}
theorem ne_body {Q : Bool → Shared → Prop} (hu : A.units < cLine) (X : K.In s.heap) (I : InstAt s.heap x ox C od) (hs : findIn K (.ref C) "__eq__" = some (some (.ref f))) (hf : isFn K (.ref f) = true)
    (h : wpAny (model prog w) A (call (.ref f) [.ref x, b]) (fun r s' => ∃ y : Bool, r = .bool y ∧ Q (!y) s') E s) :
    wpAny (model prog w) A (Builtin.«object.__ne__» ⟨[.ref x, b], []⟩) (fun r s' => ∃ y : Bool, r = Fin.done (.ret (.bool y)) ∧ Q y s') E s := by
  unfold Builtin.«object.__ne__»
  refine wpAny_bind (wpAny_of_eq (a := ((Value.ref x : Value), [b])) (by first | rfl | (simp only [slotArgs]; rfl)) ?_)
  refine wpAny_bind (wpAny_cRoomFor hu ?_)
  refine wpAny_bind (ifBound_K X I hs hf (wpAny_mono h (fun r s' hr => ?_) fun _ _ e => e))
  obtain ⟨y, rfl, q⟩ := hr
  show wpAny _ _ (pure (Fin.done (.ret (.bool (!y)))) : Sem Fin) _ _ _
  exact wpAny_pure ⟨!y, rfl, q⟩
theorem ne_call {Q : Bool → Shared → Prop} (hu : A.in1.units < cLine) (X : K.In s.heap) (I : InstAt s.heap x ox C od) (ho : subIn K (.ref C) (.type "object") = some true) (hs : findIn K (.ref C) "__eq__" = some (some (.ref f))) (hf : isFn K (.ref f) = true)
    (h : wpAny (model prog w) A.in1 (call (.ref f) [.ref x, b]) (fun r s' => ∃ y : Bool, r = .bool y ∧ Q (!y) s') E s) :
    wpAny (model prog w) A (call (.builtin "object.__ne__") [.ref x, b]) (fun r s' => ∃ y : Bool, r = .bool y ∧ Q y s') E s := by
  have sub : Looks (model prog w) s.heap (isInstance (.ref x) (.type "object")) true := I.type.andThen (looks_subIn X ho)
  refine wpAny_call (codeAny_call_builtin PySem.F.cmp_object.ne.plain PySem.F.cmpEntry_ne (check_slot PySem.F.cmpKind_ne PySem.F.cmpSplit_ne sub (PySem.F.cmpArgs_ne _ _) ?_))
  refine wpAny_mono (ne_body hu X I hs hf h) (fun r s' hr => ?_) fun _ _ e => e
  obtain ⟨y, rfl, q⟩ := hr
  exact ⟨y, rfl, q⟩
theorem ne_try {Q : Bool → Shared → Prop} (hu : A.in1.units < cLine) (X : K.In s.heap) (I : InstAt s.heap x ox C od) (ho : subIn K (.ref C) (.type "object") = some true) (hne : findIn K (.ref C) "__ne__" = some (some (.builtin "object.__ne__"))) (hs : findIn K (.ref C) "__eq__" = some (some (.ref f))) (hf : isFn K (.ref f) = true)
    (h : wpAny (model prog w) A.in1 (call (.ref f) [.ref x, b]) (fun r s' => ∃ y : Bool, r = .bool y ∧ Q (!y) s') E s) :
    wpAny (model prog w) A (tryCompare (.ref x) "__ne__" b) (fun r s' => ∃ y : Bool, r = some (.bool y) ∧ Q y s') E s := by
  unfold tryCompare
  refine wpAny_bind (wpAny_mono (Q := fun r s' => ∃ y : Bool, r = some (.bool y) ∧ Q y s') ?_ (fun r s' hr => ?_) fun _ _ e => e)
  · simp only [callSpecialIfBound?, bindSpecialIfBound?]
    refine wpAny_holding (wpAny_bind (wpAny_bind (wpAny_bind (I.type.here ((looks_findIn X hne).here ?_)))))
    simp only [PySem.F.cmp_object.ne.bind]
    refine wpAny_bind (wpAny_askSetting (wpAny_ite ?_))
    have fin : wpAny (model prog w) A (call (.builtin "object.__ne__") ([.ref x] ++ [b]) >>= fun v => pure (some v)) (fun r s' => ∃ y : Bool, r = some (.bool y) ∧ Q y s') E s :=
      wpAny_bind (wpAny_mono (ne_call hu X I ho hs hf h) (fun v s' h' => wpAny_pure (by obtain ⟨y, rfl, q⟩ := h'; exact ⟨y, rfl, q⟩)) fun _ _ h' => h')
    split
    · exact wpAny_bind (wpAny_pure (wpAny_pure fin))
    · exact wpAny_tryCatch (wpAny_bind (wpAny_pure (wpAny_pure fin)))
  · obtain ⟨y, rfl, q⟩ := hr
    exact wpAny_pure ⟨y, rfl, q⟩
theorem ne_own {Q : Value → Shared → Prop} (hu : A.in1.units < cLine) (hu0 : A.units < cLine) (X : K.In s.heap) (I : InstAt s.heap x ox C od) (hb : Looks (model prog w) s.heap (typeOf b) tb) (hn : notFirst K C tb = true)
    (ho : subIn K (.ref C) (.type "object") = some true) (hne : findIn K (.ref C) "__ne__" = some (some (.builtin "object.__ne__"))) (hs : findIn K (.ref C) "__eq__" = some (some (.ref f))) (hf : isFn K (.ref f) = true)
    (h : wpAny (model prog w) A.in1 (call (.ref f) [.ref x, b]) (fun r s' => ∃ y : Bool, r = .bool y ∧ Q (.bool (!y)) s') E s) : wpAny (model prog w) A (richCompare .NotEq (.ref x) b) Q E s := by
  have one := ne_try (Q := fun y s' => Q (.bool y) s') hu X I ho hne hs hf h
  unfold richCompare
  simp only [oneThing_ref]
  refine wpAny_holding (wpAny_bind (wpAny_cRoomFor hu0 ?_))
  refine wpAny_bind (I.type.here (wpAny_bind (hb.here ?_)))
  split
  · rename_i q
    have e : subIn K tb (.ref C) = some false := by
      rcases Bool.or_eq_true_iff.mp hn with e | e
      · rw [beq_iff_eq.mp e] at q; simp at q
      · exact beq_iff_eq.mp e
    refine wpAny_bind ((looks_subIn X e).here ?_)
    simp only [Bool.false_eq_true, if_false]
    refine wpAny_bind (wpAny_mono one (fun r s' z => ?_) fun _ _ e => e)
    obtain ⟨v, rfl, hq⟩ := z
    exact wpAny_pure hq
  · refine wpAny_bind (wpAny_pure ?_)
    simp only [Bool.false_eq_true, if_false]
    refine wpAny_bind (wpAny_mono one (fun r s' z => ?_) fun _ _ e => e)
    obtain ⟨v, rfl, hq⟩ := z
    exact wpAny_pure hq
end
section
variable {X : Cx} {CX : CXT} {k : Nat} {f C : Addr} {fd : FuncData} {ps : List Str} {sp : Sp} {E : XK}
theorem run_fn1 {pins : List (Addr × Obj)} {σ : L2.St} {H : Hp} {s : Shared} {Q : VK} {us : List Value} {vs : List V} (F : FnOk X.prog X.w X.K X.mg X.base CX k f fd ps sp) (hr : Room (k + 1) X.A) (hb : Binds X.K fd ps []) (hx : Passes CX X E)
    (I : Inv X pins σ H s) (r : Vals vs us) (h : sp vs H Q E) : wpAny (model X.prog X.w) X.A.in1 (call (.ref f) us) (EP X pins σ Q) X.xe s := by
  have hl : us.length = ps.length := by rw [← r.length]; exact F.len _ _ _ _ h
  have hl2 : (us ++ ([] : List Value)).length = ps.length := by rw [List.append_nil]; exact hl
  have hb2 := hb s us I.kIn hl2
  rw [List.append_nil] at hb2
  refine wpAny_call (codeAny_mono (F.run X.A.in1 X.stack s H ⟨us, []⟩ us vs Q E hr.in1 I.env0.in1 hb2 r h) fun r s' hq => ?_)
  cases r with
  | error e => exact hx pins σ H s e s' I hq
  | ok fl =>
    cases fl with
    | ret u => exact I.after hq
    | next => exact False.elim hq
    | brk => exact False.elim hq
    | cont => exact False.elim hq
structure NeOf (K : PySem.W.Frag) (C : Addr) : Prop where
  ob : PySem.W.subIn K (.ref C) (.type "object") = some true
  ne : PySem.W.findIn K (.ref C) "__ne__" = some (some (.builtin "object.__ne__"))
theorem op_neO (N : NeOf X.K C) (hs : PySem.W.findIn X.K (.ref C) "__eq__" = some (some (.ref f))) (hf : PySem.W.isFn X.K (.ref f) = true) (F : FnOk X.prog X.w X.K X.mg X.base CX k f fd ps sp) (hr : Room (k + 1) X.A) (hu : X.A.units + 64 < cLine) (hb : Binds X.K fd ps []) (hx : Passes CX X E) : OpR X (compareOp .NotEq) (fun x y H Q => rEqO X.K C sp E x y H fun v H' => ∃ b : Bool, v = .bl b ∧ Q (.bl (!b)) H') := by
  intro pins s σ H x y v u Q I rx ry h
  obtain ⟨a, dx, fs, t, rfl, ea, ty, nf, h⟩ := h
  obtain rfl : v = Value.ref a := rx
  obtain ⟨ox, od, J, hdt⟩ := inst_of I ea
  refine ne_own (by show X.A.units + 1 < cLine; omega) (by omega) I.kIn J (looks_of I ry ty _) nf N.ob N.ne hs hf ?_
  refine thn (run_fn1 F hr hb hx I (us := [.ref a, u]) (vs := [.ref a, y]) (.cons rfl (.cons ry .nil)) h) fun r s' hq => ?_
  obtain ⟨v', H', I', rv, b, rfl, c, hc, q⟩ := hq
  cases hc
  obtain rfl : r = Value.bool b := rv
  exact ⟨b, rfl, .bl (!b), H', I', rfl, q⟩
end
/-- what of the text a class with own operations must have -/
structure ClsO (K : PySem.W.Frag) (C : Addr) : Prop where
  cl : Cls K C
  ha : PySem.W.findIn K (.ref C) "__class__" = some (some (.builtin "object.__class__"))
  hn : PySem.W.specialIn K (.builtin "object.__class__") "__get__" = some (some (.builtin "getset_descriptor.__get__"))
  htk : PySem.W.takesIn K (.builtin "object.__class__") = some true
  hm : PySem.W.mroIn K C (.type "object") = some true
  ic : PySem.W.isClsIn K C = true
  tc : PySem.W.typeIn K (.ref C) = some (.type "type")
  nf_list : PySem.W.notFirst K C (.type "list") = true
  nf_tuple : PySem.W.notFirst K C (.type "tuple") = true
  nf_dict : PySem.W.notFirst K C (.type "dict") = true
  nf_int : PySem.W.notFirst K C (.type "int") = true
  nf_str : PySem.W.notFirst K C (.type "str") = true
  nf_bool : PySem.W.notFirst K C (.type "bool") = true
  nf_NoneType : PySem.W.notFirst K C (.type "NoneType") = true
  sf : PySem.W.selfFirst K C = true
  ob : PySem.W.subIn K (.ref C) (.type "object") = some true
  ne : PySem.W.findIn K (.ref C) "__ne__" = some (some (.builtin "object.__ne__"))
theorem ClsO.me {K : PySem.W.Frag} {C : Addr} (c : ClsO K C) : PySem.W.kitOne K (.ref C) (.ref C) = some true := by simp [PySem.W.kitOne]
theorem ClsO.ki {K : PySem.W.Frag} {C : Addr} (c : ClsO K C) {t : String} (n : PySem.W.notFirst K C (.type t) = true) : PySem.W.kitOne K (.type t) (.ref C) = some false := by
  have hne : ((Value.type t) == Value.ref C) = false := beq_eq_false_iff_ne.mpr (fun z => nomatch z)
  have hs : PySem.W.subIn K (.type t) (.ref C) = some false := by
    unfold PySem.W.notFirst at n
    rw [hne, Bool.false_or] at n
    exact beq_iff_eq.mp n
  have hi : (PySem.W.clsIn K C).isSome = true := c.ic
  unfold PySem.W.kitOne PySem.W.kitCls
  rw [hne, if_neg Bool.false_ne_true]
  simp only [hi, c.tc, beq_self_eq_true, Bool.and_self, if_true]
  exact hs
theorem ClsO.neOf {K : PySem.W.Frag} {C : Addr} (c : ClsO K C) : NeOf K C := ⟨c.ob, c.ne⟩
theorem ClsO.ty {K : PySem.W.Frag} {C : Addr} (c : ClsO K C) {H : Hp} {a dx : Addr} {fs : List (Str × V)} (e : H a = some (.ins C dx fs)) : TyX K H (.ref a) (.ref C) := .base (.ins e c.cl c.ha c.hn c.htk c.hm)
theorem ClsO.self {K : PySem.W.Frag} {C : Addr} : PySem.W.notFirst K C (.ref C) = true := by simp [PySem.W.notFirst]
/-- a value that is no object of the class, its type known -/
def Odd (K : PySem.W.Frag) (C : Addr) (H : Hp) (y : V) : Prop := ∃ t, TyX K H y t ∧ PySem.W.notFirst K C t = true ∧ PySem.W.kitOne K t (.ref C) = some false
theorem Odd.non {K : PySem.W.Frag} {C : Addr} {H : Hp} (c : ClsO K C) : Odd K C H .non := ⟨_, .base .non, c.nf_NoneType, c.ki c.nf_NoneType⟩
theorem Odd.int {K : PySem.W.Frag} {C : Addr} {H : Hp} (c : ClsO K C) (i : Int) : Odd K C H (.int i) := ⟨_, .base (.int i), c.nf_int, c.ki c.nf_int⟩
theorem Odd.bl {K : PySem.W.Frag} {C : Addr} {H : Hp} (c : ClsO K C) (b : Bool) : Odd K C H (.bl b) := ⟨_, .base (.bl b), c.nf_bool, c.ki c.nf_bool⟩
theorem Odd.str {K : PySem.W.Frag} {C : Addr} {H : Hp} (c : ClsO K C) (x : Str) : Odd K C H (.str x) := ⟨_, .base (.str x), c.nf_str, c.ki c.nf_str⟩
theorem Odd.lst {K : PySem.W.Frag} {C : Addr} {H : Hp} (c : ClsO K C) {a : Addr} {xs : List V} (e : H a = some (.lst xs)) : Odd K C H (.ref a) := ⟨_, .base (.lst e), c.nf_list, c.ki c.nf_list⟩
theorem Odd.tup {K : PySem.W.Frag} {C : Addr} {H : Hp} (c : ClsO K C) {a : Addr} {xs : List V} (e : H a = some (.tup xs)) : Odd K C H (.ref a) := ⟨_, .base (.tup e), c.nf_tuple, c.ki c.nf_tuple⟩
theorem Odd.dic {K : PySem.W.Frag} {C : Addr} {H : Hp} (c : ClsO K C) {a : Addr} {xs : List (Key × V)} (e : H a = some (.dK xs)) : Odd K C H (.ref a) := ⟨_, .base (.dK e), c.nf_dict, c.ki c.nf_dict⟩
theorem hu64 {a : Nat} (h : a + 64 < cLine) : a < cLine := by omega
def rDictD : List V → Hp → VK → Prop := fun xs H Q => ∃ (a : Addr) (kvs : List (Key × V)), xs = [.ref a] ∧ Rd H a (.dK kvs) ∧ ∀ p, H p = none → Q (.ref p) (upd H p (.dK kvs))
theorem k_dictD {X : Cx} : CallR X (.type "dict") rDictD := L2.call_dictD
theorem lg_tup {K : PySem.W.Frag} {a : Addr} {xs : List V} {g : TG} {tb : TS} {D : Ends} {σ : L2.St} {H : Hp} (Pv : Nat → L2.St → Hp → Prop) (h0 : Pv 0 σ H) (hl : ∀ i σ H, i ≤ xs.length → Pv i σ H → SqT K H a xs)
    (hs : ∀ i x σ H, xs[i]? = some x → Pv i σ H → g x σ H fun σ2 H2 => tb { D with nx := Pv (i + 1), ct := Pv (i + 1), bk := D.nx } σ2 H2) (hd : ∀ σ H, Pv xs.length σ H → D.nx σ H) : LoopG (Itt K a) g tb D σ H := for_tup Pv h0 hl hs hd
section
variable {X : Cx} {CX : CXT} {K : PySem.W.Frag} {k : Nat} {f C : Addr} {fd : FuncData} {ps : List Str} {sp : Sp} {E : XK}
theorem k_eqO (hK : X.K = K) (hs : PySem.W.findIn K (.ref C) "__eq__" = some (some (.ref f))) (hf : PySem.W.isFn K (.ref f) = true) (F : FnOk X.prog X.w X.K X.mg X.base CX k f fd ps sp) (hr : Room k X.A) (hu : X.A.units + 64 < cLine) (hb : Binds K fd ps []) (hx : Passes CX X E) : OpR X (compareOp .Eq) (rEqO K C sp E) := by
  subst hK
  exact op_eqO hs hf F hr hu hb hx
def rNeO (K : PySem.W.Frag) (C : Addr) (sp : Sp) (E : XK) : R2 := fun x y H Q => rEqO K C sp E x y H fun v H' => ∃ b : Bool, v = .bl b ∧ Q (.bl (!b)) H'
theorem k_neO (hK : X.K = K) (N : NeOf K C) (hs : PySem.W.findIn K (.ref C) "__eq__" = some (some (.ref f))) (hf : PySem.W.isFn K (.ref f) = true) (F : FnOk X.prog X.w X.K X.mg X.base CX k f fd ps sp) (hr : Room (k + 1) X.A) (hu : X.A.units + 64 < cLine) (hb : Binds K fd ps []) (hx : Passes CX X E) : OpR X (compareOp .NotEq) (rNeO K C sp E) := by
  subst hK
  exact op_neO N hs hf F hr hu hb hx
end
end BC

set_option Elab.async false
set_option linter.all false
set_option maxRecDepth 100000
set_option maxHeartbeats 4000000
/-! a caught exception as a tracked object: in its suite, behind it, and handed to defs -/
namespace BC
open PySem PySem.Spec PyProof.Rows L2
/-- an exception's object: its class, its dict -/
def ExT (cls : Value) (d : Option Addr) (a : Addr) : HO := .ext fun h => ∃ (ob : Obj) (fs : Array Value), h.get? a = some ob ∧ Zc cls d ob ∧ ob.data = .fields fs
theorem exT_ok {P : Program} {w : World} {H : Hp} {h : Heap} {a : Addr} {cls : Value} {d : Option Addr} {ob : Obj} {fs : Array Value} (e : h.get? a = some ob) (z : Zc cls d ob) (f : ob.data = .fields fs) : ObjOk P w H h a (ExT cls d a) := by
  refine ⟨⟨ob, fs, e, z, f⟩, ⟨ob, e⟩, ?_⟩
  rintro h1 h2 ⟨o2, f2, e2, z2, q2⟩ k
  exact ⟨o2, f2, k _ e2, z2, q2⟩
/-- at a stands an exception of this class, without a dict -/
def IsEx (H : Hp) (a : Addr) (cls : Value) : Prop := ∃ φ : Heap → Prop, H a = some (.ext φ) ∧ ∀ h, φ h → ∃ (ob : Obj) (fs : Array Value), h.get? a = some ob ∧ Zc cls none ob ∧ ob.data = .fields fs
theorem isEx_T {H : Hp} {a : Addr} {cls : Value} (h : H a = some (ExT cls none a)) : IsEx H a cls := ⟨_, h, fun _ q => q⟩
theorem isEx_O {H : Hp} {a : Addr} {cls : Value} (h : H a = some (ExO cls a)) : IsEx H a cls := ⟨_, h, fun _ q => by
  obtain ⟨ob, fs, e, z, d, _⟩ := q
  exact ⟨ob, fs, e, z, d⟩⟩
theorem IsEx.at {H H' : Hp} {a : Addr} {cls : Value} (x : IsEx H a cls) (h : ∀ o, H a = some o → H' a = some o) : IsEx H' a cls := by
  obtain ⟨φ, e, q⟩ := x
  exact ⟨φ, h _ e, q⟩
section
variable {X : Cx} {pins : List (Addr × Obj)} {σ : L2.St} {H : Hp} {s : Shared}
/-- an object that stands untracked, younger than the frame, is tracked -/
theorem inv_track {a : Addr} {φ : Heap → Prop} (I : Inv X pins σ H s) (n0 : X.s_0.heap.get? a = none) (na : H a = none) (nL : a ≠ X.env.locals) (nC : ∀ x c, X.env.cells.lookup x = some c → c ≠ a) (nP : ∀ p ∈ X.pn ++ pins, p.1 ≠ a)
    (new : ObjOk X.prog X.w (upd H a (.ext φ)) s.heap a (.ext φ)) : Inv X pins σ (upd H a (.ext φ)) s := by
  have old : ∀ b o, X.s_0.heap.get? b = some o → b ≠ a := by
    rintro b o e rfl
    rw [n0] at e
    cases e
  have trk : ∀ {b : Addr} {o : HO}, H b = some o → b ≠ a := by
    rintro b o e rfl
    rw [na] at e
    cases e
  have frame : upd H a (.ext φ) X.env.locals = none := by rw [upd_ne (Ne.symm nL)]; exact I.free
  have un : Un X.fs X.ex X.H_0 (upd H a (.ext φ)) X.s_0.heap s.heap :=
    { keep := I.base.keep
      slot := I.base.slot
      free := fun b o e n x => by rw [upd_ne (old b o e)]; exact I.base.free b o e n x
      there := I.base.there
      tups := fun b xs e => by have q := I.base.tups b xs e; rw [upd_ne (trk q)]; exact q
      frzs := fun b o xs e => by have q := I.base.frzs b o xs e; rw [upd_ne (trk q)]; exact q
      tbls := fun b ps e => by obtain ⟨m, q⟩ := I.base.tbls b ps e; exact ⟨m, by rw [upd_ne (trk q)]; exact q⟩ }
  have held : HOk X.prog X.w (upd H a (.ext φ)) s.heap := by
    intro b u e
    by_cases q : b = a
    · subst q
      rw [upd_same] at e
      cases e
      exact new
    · rw [upd_ne q] at e
      exact (I.hok b u e).stay (fun _ _ _ z => z) (fun c z => by rw [upd_ne (trk z)]; exact z) fun c xs z => by rw [upd_ne (trk z)]; exact z
  exact { ok := I.ok, os := I.os, bare := I.bare, base := un, loc := I.loc, cell := I.cell, free := frame, hok := held, len := I.len
          freeC := fun x c e => by rw [upd_ne (nC x c e)]; exact I.freeC x c e
          pin := fun p hp => by obtain ⟨h1, h2, h3⟩ := I.pin p hp; exact ⟨h1, by rw [upd_ne (nP p hp)]; exact h2, h3⟩ }
/-- into the suite, the exception tracked -/
theorem inv_intoT (I : Inv X pins σ H s) (a : Addr) : Inv (X.suite a (X.pn ++ pins)) [] σ H s :=
  ⟨I.ok.suite a (X.pn ++ pins), I.os, I.bare, I.base, I.loc, I.cell, I.free, I.freeC, fun p hp => I.pin p (by rwa [List.append_nil] at hp), I.hok, I.len⟩
theorem inv_outT {a : Addr} {pn' : List (Addr × Obj)} (I : Inv (X.suite a (X.pn ++ pins)) pn' σ H s) (ok : X.Ok) : Inv X pins σ H s :=
  ⟨ok, I.os, I.bare, I.base, I.loc, I.cell, I.free, I.freeC, fun p hp => I.pin p (List.mem_append_left _ hp), I.hok, I.len⟩
end
/-- the wish of 'except x as n' where the exception is tracked from then on -/
def wTrk (K : PySem.W.Frag) (c : Value) (i : Nat) (ts : Addr → Value → Option Addr → TS) (Wout : WX) (D : Ends) : WX := fun cls d σ H =>
  ∃ b, PySem.W.exmOne K cls c = some b ∧ (b = true → ∀ a, H a = none → ts a cls d { nx := fun σ' H' => D.nx (σ'.set i none) H', rt := D.rt, bk := fun σ' H' => D.bk (σ'.set i none) H', ct := fun σ' H' => D.ct (σ'.set i none) H' } (σ.set i (some (.ref a))) (upd H a (ExT cls d a))) ∧
    (b = false → Wout cls d σ H)
section
variable {X : Cx} {x n : Str} {c : Value} {i : Nat} {body suite : List Stmt} {b0 : Stmt} {np pos hpos : Pos} {tb : WX → TS} {ts : Addr → Value → Option Addr → TS} {Wout : WX}
theorem ps_try_trk (hs : X.stack = X.env :: X.outer) (hf : X.env.frame = some X.env.locals) (hx : X.ex = []) (hN : X.N.Nodup) (hi : X.N[i]? = some n) (hln : X.env.kindOf n = some .local) (hc : Names X x c) (tk : Takes X Wout)
    (hb : ∀ (W : WX) (pn : List (Addr × Obj)) (xe : Value → Shared → Prop), Takes (X.tr pn xe) W → PassesOwn (model X.prog X.w) X.A X.env xe → PSs (X.tr pn xe) body (tb W))
    (hsu : ∀ (a : Addr) (cls : Value) (d : Option Addr) (pn : List (Addr × Obj)), PSs (X.suite a pn) (b0 :: suite) (ts a cls d)) :
    PS X (.Try body [.ExceptHandler (some (.Name x np)) (some n) (b0 :: suite) hpos] [] [] pos) (fun D σ H => tb (wTrk X.K c i ts Wout D) D σ H) := by
  constructor
  intro pins s σ H D I h
  have ok := I.ok
  have frames : X.A.frames = some (X.env :: X.outer) := hs ▸ ok.frames
  let W0 := wTrk X.K c i ts Wout D
  let after := fun (e : Value) (s1 : Shared) => wpAny (model X.prog X.w) X.A (noteFrame e X.env) (fun _ s2 => wpAny (model X.prog X.w) X.A (setFlight e none) (fun _ s3 =>
    wpAny (model X.prog X.w) X.A (handleBy e X.env [.ExceptHandler (some (.Name x np)) (some n) (b0 :: suite) hpos]) (SP X pins D) X.xe s3) X.xe s2) X.xe s1
  have take : Takes (X.tr (X.pn ++ pins) after) W0 := by
    rintro u s' ⟨a, B, sI, pins1, σ1, H1, cls, d, rfl, J0, nb, up, sky, na, os, ag, b, eb, yes, no⟩
    have J : Inv X pins σ1 H1 sI := J0.ofTry ok
    rw [show (X.tr (X.pn ++ pins) after).stack = X.env :: X.outer from hs] at sky
    refine Sky.land (Z := Zc cls d) Zc.steady frames hf sky fun h3 fly3 up3 => ?_
    have J3 : Inv X pins σ1 H1 { s' with heap := h3 } := J.landed nb fly3.1 (up.trans up3) os ag
    obtain ⟨o3, f3, e3, z3, d3⟩ := fly3.there
    have outside : a ∉ frs (X.env :: X.outer) := by
      intro hm
      obtain ⟨_, o', e', no'⟩ := fly3.2.2.1.mem hm
      rw [e3] at e'
      cases e'
      exact no' _ d3
    have gone : sI.heap.get? a = none := by
      cases q : sI.heap.get? a with
      | none => rfl
      | some o =>
        have z := nb a o q (by rw [show (X.tr (X.pn ++ pins) after).stack = X.env :: X.outer from hs]; exact outside)
        rw [fly3.2.1] at z
        cases z
    have n0 : X.s_0.heap.get? a = none := by
      cases q : X.s_0.heap.get? a with
      | none => rfl
      | some o =>
        obtain ⟨o', z⟩ := J.base.there a o q (by rw [hx]; exact List.not_mem_nil)
        rw [gone] at z
        cases z
    have nL : a ≠ X.env.locals := fun z => outside (List.mem_filterMap.mpr ⟨X.env, List.mem_cons_self, by rw [hf, z]⟩)
    have nF : a ∉ X.fs := by
      intro hm
      obtain ⟨e, he, q⟩ := List.mem_filterMap.mp hm
      exact outside (List.mem_filterMap.mpr ⟨e, List.mem_cons_of_mem _ he, q⟩)
    have nC : ∀ y k, X.env.cells.lookup y = some k → k ≠ a := by
      rintro y k e rfl
      obtain ⟨v, o, z, _⟩ := J.cell y k e
      rw [gone] at z
      cases z
    have nP : ∀ p ∈ X.pn ++ pins, p.1 ≠ a := by
      intro p hp q
      have z := (J.pin p hp).1
      rw [q, gone] at z
      cases z
    have S3 := J3.suite e3 d3 na nL nF
    refine wpAny_handleBy_cons (codeAny_handlers_test ?_) (fun q => nomatch q)
    have LT : PySem.W.Looks (model X.prog X.w) h3 (typeOf (.ref a)) cls := fun A Q E s2 k q => wpAny_typeOf_ref (k _ _ e3) (by rw [z3.1]; exact q)
    have LM := PySem.W.exm_one (M := model X.prog X.w) (J3.kIn) LT eb
    have asked : ∀ {Q : Value → Shared → Prop} {E : Value → Shared → Prop}, Q c { s' with heap := h3 } → wpAny (model X.prog X.w) (X.A.mark (some (.ref a))) (eval (.Name x np) X.env) Q E { s' with heap := h3 } := by
      intro Q E q
      obtain ⟨hg, hdb, hm | ⟨hm, hv, hnn⟩⟩ := hc
      · exact ld_glob (X := X.suite a ((a, o3) :: (X.pn ++ pins))) S3 hg hm q hdb
      · exact ld_blt (X := X.suite a ((a, o3) :: (X.pn ++ pins))) S3 hg hm hv q hnn hdb
    refine asked (LM.here ?_)
    cases b with
    | false =>
      show wpAny _ X.A (handleBy (.ref a) X.env []) _ _ _
      refine wpAny_handleBy_nil ?_
      obtain ⟨_, _, _, ob, vs, T, oT, tt, he, hz, hd, h1, hr⟩ := id fly3
      have fin : wpAny (model X.prog X.w) X.A (setFlight (.ref a) X.env.frame) (fun _ s4 => wpAny (model X.prog X.w) X.A (throw (.ref a) : Sem Flow) (SP X pins D) X.xe s4) X.xe { s' with heap := h3 } := by
        rw [hf]
        refine HandSPX.setFlight_upZ fly3 fun h4 held up4 => wpAny_throw (tk _ _ ?_)
        exact ⟨a, B, sI, pins, σ1, H1, cls, d, rfl, J, by rw [hs]; rw [show (X.tr (X.pn ++ pins) after).stack = X.env :: X.outer from hs] at nb; exact nb, (up.trans up3).trans up4, .inr (.inr (by rw [hs]; exact held)), na, os, ag, no rfl⟩
      unfold PySem.passOn
      refine wpAny_bind (wpAny_field he hd h1 ?_)
      rw [if_neg (by simp : ¬ ((Value.ref T == Value.none) = true))]
      first
        | exact wpAny_bind fin
        | exact wpAny_bind (wpAny_pure (wpAny_bind fin))
    | true =>
      refine codeAny_handlers_suite_as ?_
      refine HandSPX.lands_againZ fly3 fun h4 fly4 up4 => ?_
      have J4 : Inv X pins σ1 H1 { s' with heap := h4 } := J.landed nb fly4.1 ((up.trans up3).trans up4) os ag
      obtain ⟨o4, f4, e4, z4, d4⟩ := fly4.there
      have T4 : Inv X pins σ1 (upd H1 a (ExT cls d a)) { s' with heap := h4 } := inv_track J4 n0 na nL nC nP (exT_ok e4 z4 d4)
      refine store_ok (X := X.suite a (X.pn ++ pins)) (v := .ref a) (inv_intoT T4 a) hN hi (.inl hln) rfl (fun s5 S5 => ?_) (.inr hln)
      refine wpAny_mono ((hsu a cls d (X.pn ++ pins)).run [] s5 _ _ _ S5 (yes rfl a na)) (fun fl s6 res => ?_) fun _ _ z => z.elim
      have close : ∀ {σ6 : L2.St} {H6 : Hp} {Q : Shared → Prop}, Inv (X.suite a (X.pn ++ pins)) [] σ6 H6 s6 → (∀ s7, Inv X pins (σ6.set i none) H6 s7 → Q s7) →
          wpAny (model X.prog X.w) X.A (do bindName X.env n .none; unbindBehindTheSuite X.env n hpos) (fun _ s7 => Q s7) X.xe s6 := fun S6 q => gone_ok (inv_outT S6 ok) hN hi hln q
      match fl, res with
      | .next, res =>
        obtain ⟨σ6, H6, S6, q6⟩ := res
        exact close S6 fun s7 J7 => ⟨_, _, J7, q6⟩
      | .brk, res =>
        obtain ⟨σ6, H6, S6, q6⟩ := res
        exact close S6 fun s7 J7 => ⟨_, _, J7, q6⟩
      | .cont, res =>
        obtain ⟨σ6, H6, S6, q6⟩ := res
        exact close S6 fun s7 J7 => ⟨_, _, J7, q6⟩
      | .ret u, res =>
        obtain ⟨v6, σ6, H6, S6, r6, q6⟩ := res
        exact close S6 fun s7 J7 => ⟨_, _, _, J7, r6, q6⟩
  refine wpAny_Try_except (wpAny_mono ((hb W0 (X.pn ++ pins) after take PassesOwn.looking).run [] s σ H D (I.toTry _) h) (fun fl s1 res => ?_) fun e s1 he => he)
  match fl, res with
  | .next, res =>
    obtain ⟨σ2, H2, J2, q⟩ := res
    exact wpAny_execs_nil ⟨σ2, H2, J2.ofTry ok, q⟩
  | .brk, res =>
    obtain ⟨σ2, H2, J2, q⟩ := res
    exact ⟨σ2, H2, J2.ofTry ok, q⟩
  | .cont, res =>
    obtain ⟨σ2, H2, J2, q⟩ := res
    exact ⟨σ2, H2, J2.ofTry ok, q⟩
  | .ret u, res =>
    obtain ⟨v, σ2, H2, J2, r, q⟩ := res
    exact ⟨v, σ2, H2, J2.ofTry ok, r, q⟩
end
/-! ### isinstance of a tracked exception -/
/-- isinstance(e, C) -/
def rIsX (K : PySem.W.Frag) : List V → Hp → VK → Prop := fun xs H Q => ∃ (a D : Addr) (c : V) (cv : Value) (b : Bool), xs = [.ref a, c] ∧ IsEx H a (.ref D) ∧ ExcC K D ∧ ClsV c cv ∧ PySem.W.kitOne K (.ref D) cv = some b ∧ Q (.bl b) H
/-- isinstance(e, (C1, C2, ..)) -/
def rIsXT (K : PySem.W.Frag) : List V → Hp → VK → Prop := fun xs H Q => ∃ (a D tp : Addr) (cs : List V) (us : List Value) (b : Bool), xs = [.ref a, .ref tp] ∧ IsEx H a (.ref D) ∧ ExcC K D ∧ H tp = some (.tup cs) ∧ Paired ClsV cs us ∧ PySem.W.kitAny K (.ref D) us = some b ∧ Q (.bl b) H
section
variable {X : Cx} {K : PySem.W.Frag}
theorem isx_at {pins : List (Addr × Obj)} {σ : L2.St} {H : Hp} {s : Shared} {a D : Addr} (I : Inv X pins σ H s) (x : IsEx H a (.ref D)) : ∃ ob, PySem.W.InstAt s.heap a ob D none := by
  obtain ⟨φ, e, q⟩ := x
  obtain ⟨ob, fs, e1, ⟨z1, z2⟩, d1⟩ := q _ (I.hok a _ e).1
  obtain ⟨oc, od, dt, sl⟩ := ob
  dsimp only at z1 z2 d1
  subst z1 z2 d1
  exact ⟨_, e1, rfl, rfl, trivial⟩
theorem k_isX (hK : X.K = K) : CallR X (.builtin "isinstance") (rIsX K) := by
  subst hK
  intro pins s σ H xs us Q I r h
  obtain ⟨a, D, c, cv, b, rfl, x, C, k, e, q⟩ := h
  obtain ⟨u1, u2, rfl, r1, r2⟩ := vals2 r
  obtain rfl : u1 = Value.ref a := r1
  obtain rfl := k.eq r2
  obtain ⟨ob, J⟩ := isx_at I x
  exact PySem.W.kia_one (PySem.W.handS_kitx_exc C.hg C.hk C.hs C.hd C.ha C.hn C.ht C.hm) I.kIn J e (fun z => nomatch z) fun tk => ⟨.bl b, H, I.tok tk, rfl, q⟩
theorem k_isXT (hK : X.K = K) : CallR X (.builtin "isinstance") (rIsXT K) := by
  subst hK
  intro pins s σ H xs us Q I r h
  obtain ⟨a, D, tp, cs, ws, b, rfl, x, C, hT, k, e, q⟩ := h
  obtain ⟨u1, u2, rfl, r1, r2⟩ := vals2 r
  obtain rfl : u1 = Value.ref a := r1
  obtain rfl : u2 = Value.ref tp := r2
  obtain ⟨ob, J⟩ := isx_at I x
  obtain ⟨_, its, rv, o, h1, h2, m, h3⟩ := (I.hok tp _ hT : ObjOk X.prog X.w H s.heap tp (.tup cs))
  obtain rfl := ClsV.all k rv
  obtain ⟨oc, od, dt, sl⟩ := o
  dsimp only at h2 h3
  subst h2 h3
  exact PySem.W.kia_tup (PySem.W.handS_kitx_exc C.hg C.hk C.hs C.hd C.ha C.hn C.ht C.hm) I.kIn J h1 e (fun z => nomatch z) fun tk => ⟨.bl b, H, I.tok tk, rfl, q⟩
end
/-! ### defs that may be called while an exception is handled -/
structure FnU (P : Program) (w : World) (K : PySem.W.Frag) (mg : Str → Option Value) (base : Heap) (k : Nat) (f : Addr) (fd : FuncData) (ps : List Str) (sp : Sp) : Prop where
  size : ∀ vs H Q E, sp vs H Q E → vs.length = ps.length
  go : ∀ (A : Around) (outer : List Env) (s : Shared) (H : Hp) (args : Args) (us : List Value) (vs : List V) (Q : VK) (E : XK), L2H.RoomH k A → Env0 P w K mg base A outer s H →
    BindsTo s fd args (ps.zip us) → Vals vs us → sp vs H Q E → codeAny (model P w) A (.call (.ref f) args) (CR CX0 outer P w H s Q E) s
/-- the context of such a def's body -/
def cxU (P : Program) (w : World) (K : PySem.W.Frag) (mg : Str → Option Value) (base : Heap) (N : List Str) (qual : Str) (scope : Scope) (f : Addr) (cd : Value) (A : Around) (outer : List Env) (s : Shared) (H : Hp) (E : XK) : Cx :=
  { cxOf CX0 P w K mg base N qual scope f cd A outer s H E with calm := false }
section
variable {P : Program} {w : World} {K : PySem.W.Frag} {mg : Str → Option Value} {base : Heap} {k : Nat} {f : Addr} {fd : FuncData} {ps : List Str} {sp : Sp}
theorem fun_okU {x qual : Str} {st : Stmt} {N : List Str} (F : Fun K x qual st f fd) (S : FnScope N ps (defScope st)) (size : ∀ vs H Q E, sp vs H Q E → vs.length = ps.length)
    (body : ∀ (cdv : Value) (A : Around) (outer : List Env) (s : Shared) (H : Hp) (vs : List V) (Q : VK) (E : XK), L2H.RoomH k (A.deeper (envOfC qual (defScope st) s.heap.objs.size f cdv)) → sp vs H Q E →
      ∃ t, PSs (cxU P w K mg base N qual (defScope st) f cdv A outer s H E) (defBody st) t ∧ t { nx := fun _ H' => Q .non H', rt := Q } (start N vs) H) : FnU P w K mg base (k + 1) f fd ps sp := by
  obtain ⟨oc, od, kV, doc, pm, an, cdv, ct, osl, rfl, lk, hcd⟩ := F.ex
  refine ⟨size, fun A outer s H args us vs Q E room env bind vals prom => ?_⟩
  have inK : K.In s.heap := env.mod.kin.keeps fun b o q => (env.bs b o q).1
  have loose : s.heap.NoLimit := env.mod.nolimit.keeps fun b o q => (env.bs b o q).1
  have kinds : ∀ z ∈ ps.zip us, (defScope st).names.lookup z.1 = some .local ∨ ((defScope st).names.lookup z.1 = some .cell ∧ ((cellsFrom (s.heap.objs.size + 1) (defScope st).names []).lookup z.1).isSome = true) := by
    rintro ⟨n, v⟩ hz
    have hn := (List.of_mem_zip hz).1
    rcases S.par n hn with h | h
    · exact Or.inl h
    · exact Or.inr ⟨h, PySem.W.cellsFrom_some _ _ _ (Or.inl h)⟩
  refine codeAny_call_function room.depth (inK _ _ lk) rfl S.co S.gen rfl (PySem.W.codeRec_of inK hcd) (bind _ _ _ _ ?_)
  refine wpAny_newFunctionEnv_cells S.kind kinds fun env' e1 s1 into => ?_
  subst e1
  refine ⟨loose.keeps into.toInCall.keep, codeAny_func ?_⟩
  obtain ⟨t, deriv, read⟩ := body cdv A outer s H vs Q E (room.deeper _) prom
  have env1 : Env0 P w K mg base { A with handled := none } outer s H := ⟨env.frames, env.mod, env.bs, env.bsz, env.funs, env.frf, env.hok, env.bare⟩
  have I0 := inv_start (CX := CX0) (E := E) (A := { A with handled := none }) S rfl env1 (size _ _ _ _ prom) vals into
  have I : Inv (cxU P w K mg base N qual (defScope st) f cdv A outer s H E) [] (start N vs) H s1 :=
    ⟨⟨I0.ok.mod, I0.ok.kind, I0.ok.glob, I0.ok.blt, I0.ok.above, I0.ok.inj, I0.ok.has, I0.ok.cab, (fun z => absurd (show false = true from z) Bool.false_ne_true), I0.ok.frames, I0.ok.stk, I0.ok.exf, I0.ok.bs, I0.ok.bsz, I0.ok.noex, I0.ok.exfs, I0.ok.funs, I0.ok.frf⟩,
      I0.os, I0.bare, I0.base, I0.loc, I0.cell, I0.free, I0.freeC, I0.pin, I0.hok, I0.len⟩
  refine wpAny_mono (deriv.run [] s1 (start N vs) H _ I read) (fun flow s' ends => ?_) fun _ _ q => q
  have done : ∀ {σ2 : L2.St} {H2 : Hp} {v : V} {u : Value}, Inv (cxU P w K mg base N qual (defScope st) f cdv A outer s H E) [] σ2 H2 s' → RelV v u → Q v H2 → CE outer P w H s Q u s' := by
    intro σ2 H2 v u J rel q
    exact ⟨v, H2, J.os, J.bare, J.base, J.hok, rel, q⟩
  match flow, ends with
  | .ret u, ends =>
    obtain ⟨v, σ2, H2, J, rel, q⟩ := ends
    exact done J rel q
  | .next, ends =>
    obtain ⟨σ2, H2, J, q⟩ := ends
    exact done (v := V.non) (u := Value.none) J rfl q
  | .brk, ends =>
    obtain ⟨_, _, _, q⟩ := ends
    exact q.elim
  | .cont, ends =>
    obtain ⟨_, _, _, q⟩ := ends
    exact q.elim
end
section
variable {X : Cx} {k : Nat} {f : Addr} {fd : FuncData} {ps : List Str} {sp : Sp} {E : XK} {x : Str} {p pos : Pos} {e : Expr} {es : List Expr} {t : TA}
theorem pe_callU (F : FnU X.prog X.w X.K X.mg X.base k f fd ps sp) (hr : L2H.RoomH k X.A) (hg : Gl X x) (hm : X.mg x = some (.ref f)) (hk : PySem.W.keepIn X.K (.ref f) = true) (hb : Binds X.K fd ps []) (hx : Passes CX0 X E)
    (ha : PA X (e :: es) t) (hdb : (x == ("__debug__" : Str)) = false := by decide) (he : starEach (e :: es) X.env = (false, eval e X.env) :: starEach es X.env := by rfl) (hpl : (backTo pos (starEach es X.env)).any (·.1) = false := by rfl) :
    PE X (.Call (.Name x p) (e :: es) [] pos) (tCall sp [] E t) := by
  constructor
  intro pins s σ H Q I h
  have args := ha.run pos pins s σ H _ I h
  refine wpAny_Call_Name_kw (ld_glob I hg hm (PySem.W.callWith_K (h₀ := X.base) I.ok.mod.kin hk (thn args ?_) he hpl) hdb)
  rintro us s1 ⟨vs, H1, I1, r, q⟩
  rw [List.append_nil] at q
  refine ⟨I1.kIn, ?_⟩
  have many : (us ++ []).length = ps.length := by rw [List.append_nil]; exact r.length.symm.trans (F.size _ _ _ _ q)
  have bs := hb s1 us I1.kIn many
  rw [List.append_nil] at bs
  have run := F.go X.A X.stack s1 H1 ⟨us, []⟩ us vs Q E hr I1.env0 bs r q
  refine wpAny_call (codeAny_mono run fun res s' z => ?_)
  match res, z with
  | .error err, z => exact hx pins σ H1 s1 err s' I1 z
  | .ok (.ret u), z => exact I1.after z
end
end BC
namespace BC
open PySem PySem.Spec PyProof.Rows L2
theorem roomM {k : Nat} {A : Around} {v : Option Value} (r : L2H.RoomH k A) : L2H.RoomH k (A.mark v) := ⟨r.dp, r.un⟩
/-- own classes ahead of ValueError's -/
def MroIs (K : PySem.W.Frag) (C : Addr) (l : List Addr) : Prop := ∃ cd, PySem.W.clsIn K C = some cd ∧ cd.mro = l.map Value.ref ++ HandSPX.veTail
theorem own_has {l : List Addr} {D : Addr} : (l.map Value.ref ++ HandSPX.veTail).contains (.ref D) = decide (D ∈ l) := by
  induction l with
  | nil => rfl
  | cons a l ih =>
    rw [List.map_cons, List.cons_append, List.contains_cons, ih]
    by_cases e : D = a
    · subst e; simp
    · have : (Value.ref D == Value.ref a) = false := by simpa using e
      rw [this, Bool.false_or]
      simp [e]
theorem mro_sub {K : PySem.W.Frag} {C : Addr} {l : List Addr} (m : MroIs K C l) (v : Value) : PySem.W.subIn K (.ref C) v = some ((l.map Value.ref ++ HandSPX.veTail).contains v) := by
  obtain ⟨cd, h1, h2⟩ := m
  show PySem.W.mroIn K C v = _
  unfold PySem.W.mroIn
  rw [h1]
  show (if cd.mro.isEmpty = true then none else some (cd.mro.contains v)) = _
  rw [h2, if_neg (by cases l <;> simp [HandSPX.veTail])]
/-- isinstance of own exceptions, among each other -/
theorem kit_own {K : PySem.W.Frag} {C D : Addr} {l l2 : List Addr} (m : MroIs K C l) (m2 : MroIs K D l2) (t : PySem.W.typeIn K (.ref D) = some (.type "type")) (hC : C ∈ l) : PySem.W.kitOne K (.ref C) (.ref D) = some (decide (D ∈ l)) := by
  unfold PySem.W.kitOne
  by_cases e : C = D
  · subst e
    rw [if_pos (by simp), decide_eq_true hC]
  · have : (Value.ref C == Value.ref D) = false := by simpa using e
    rw [this, if_neg Bool.false_ne_true]
    obtain ⟨cd2, k1, _⟩ := id m2
    show (if ((PySem.W.clsIn K D).isSome && PySem.W.typeIn K (.ref D) == some (.type "type")) = true then PySem.W.subIn K (.ref C) (.ref D) else none) = _
    rw [k1, t, if_pos (by rfl), mro_sub m, own_has]
theorem kit_ve {K : PySem.W.Frag} {C : Addr} {l : List Addr} (m : MroIs K C l) : PySem.W.kitOne K (.ref C) (.type "ValueError") = some true := by
  unfold PySem.W.kitOne
  rw [if_neg (by simp)]
  show (if PySem.W.kitMeta "ValueError" = true then PySem.W.subIn K (.ref C) (.type "ValueError") else none) = _
  rw [if_pos (by decide +kernel), mro_sub m]
  congr 1
  clear m
  induction l with
  | nil => rfl
  | cons a l ih => rw [List.map_cons, List.cons_append, List.contains_cons, ih, Bool.or_true]
/-- an own class in an except clause -/
theorem exm_own {K : PySem.W.Frag} {C D : Addr} {l : List Addr} (m : MroIs K C l) (e : ExcC K D) (t : PySem.W.typeIn K (.ref D) = some (.type "type")) : PySem.W.exmOne K (.ref C) (.ref D) = some (decide (D ∈ l)) :=
  PySem.W.exm_ref e.hs e.hd t (by rw [mro_sub m, own_has])
theorem exm_yes {K : PySem.W.Frag} {C D : Addr} {l : List Addr} (m : MroIs K C l) (e : ExcC K D) (t : PySem.W.typeIn K (.ref D) = some (.type "type")) (h : D ∈ l) : PySem.W.exmOne K (.ref C) (.ref D) = some true := by rw [exm_own m e t, decide_eq_true h]
theorem kitAny_cons' {K : PySem.W.Frag} {t c : Value} {cs : List Value} {b r : Bool} (h : PySem.W.kitOne K t c = some b) (hr : PySem.W.kitAny K t cs = some r) : PySem.W.kitAny K t (c :: cs) = some (b || r) := by
  unfold PySem.W.kitAny
  rw [h]
  cases b with
  | true => rfl
  | false => rw [Bool.false_or]; exact hr
section
variable {σ : L2.St} {H : Hp} {Q : VK} {t : TA} {sp : Sp} {E : L2.St → XK}
theorem x_callS : tCallS sp E t σ H Q = t σ H fun vs H1 => sp vs H1 Q (E σ) := rfl
end
end BC

set_option Elab.async false
set_option linter.all false
set_option maxRecDepth 100000
set_option maxHeartbeats 4000000
/-! a call of a def that an expression chooses: [f, g][i](..) -/
namespace BC
open PySem PySem.Spec PyProof.Rows L2
section
variable {X : Cx} {CX : CXT} {k1 k2 : Nat} {f1 f2 : Addr} {fd1 fd2 : FuncData} {ps1 ps2 : List Str} {sp1 sp2 : Sp} {E : L2.St → XK} {fe e : Expr} {es : List Expr} {tf : TE} {t : TA} {pos : Pos}
/-- one of two defs is called; what it raises is wished for at the caller's slots -/
def tCallF2 (f1 f2 : Addr) (sp1 sp2 : Sp) (E : L2.St → XK) (tf : TE) (t : TA) : TE := fun σ H Q => tf σ H fun x H1 => (x = .ref f1 ∧ t σ H1 fun vs H2 => sp1 vs H2 Q (E σ)) ∨ (x = .ref f2 ∧ t σ H1 fun vs H2 => sp2 vs H2 Q (E σ))
theorem x_callF2 {σ : L2.St} {H : Hp} {Q : VK} : tCallF2 f1 f2 sp1 sp2 E tf t σ H Q = tf σ H fun x H1 => (x = .ref f1 ∧ t σ H1 fun vs H2 => sp1 vs H2 Q (E σ)) ∨ (x = .ref f2 ∧ t σ H1 fun vs H2 => sp2 vs H2 Q (E σ)) := rfl
theorem pe_callF2 (hf : PE X fe tf) (F1 : FnOk X.prog X.w X.K X.mg X.base CX k1 f1 fd1 ps1 sp1) (r1 : Room k1 X.A) (kp1 : PySem.W.keepIn X.K (.ref f1) = true) (b1 : Binds X.K fd1 ps1 [])
    (F2 : FnOk X.prog X.w X.K X.mg X.base CX k2 f2 fd2 ps2 sp2) (r2 : Room k2 X.A) (kp2 : PySem.W.keepIn X.K (.ref f2) = true) (b2 : Binds X.K fd2 ps2 []) (hx : ∀ σ, PassesAt CX X σ (E σ)) (ha : PA X (e :: es) t)
    (ht : eval (.Call fe (e :: es) [] pos) X.env = (do callWith pos (← eval fe X.env) [] (backTo pos (starEach (e :: es) X.env)) (backToKw pos (keywordEach [] X.env))) := by rfl)
    (he : starEach (e :: es) X.env = (false, eval e X.env) :: starEach es X.env := by rfl) (hpl : (backTo pos (starEach es X.env)).any (·.1) = false := by rfl) :
    PE X (.Call fe (e :: es) [] pos) (tCallF2 f1 f2 sp1 sp2 E tf t) := by
  constructor
  intro pins s σ H Q I h
  refine Call_ (thn (hf.run pins s σ H _ I h) fun u s1 ⟨x, H1, I1, rx, q⟩ => ?_) ht
  rcases q with ⟨rfl, q⟩ | ⟨rfl, q⟩
  · obtain rfl : u = Value.ref f1 := rx
    exact PySem.W.callWith_K (h₀ := X.base) I1.ok.mod.kin kp1 (thn (ha.run pos pins s1 σ H1 _ I1 q) fun us s2 ⟨vs, H2, I2, r, q2⟩ => ⟨I2.kIn, run_fnS F1 r1 b1 (hx σ) I2 r q2⟩) he hpl
  · obtain rfl : u = Value.ref f2 := rx
    exact PySem.W.callWith_K (h₀ := X.base) I1.ok.mod.kin kp2 (thn (ha.run pos pins s1 σ H1 _ I1 q) fun us s2 ⟨vs, H2, I2, r, q2⟩ => ⟨I2.kIn, run_fnS F2 r2 b2 (hx σ) I2 r q2⟩) he hpl
end
end BC

set_option Elab.async false
set_option linter.all false
set_option maxRecDepth 100000
set_option maxHeartbeats 4000000
/-! a call of one of four defs that an expression chooses; dict comprehensions over a dict; a locked expression -/
namespace BC
open PySem PySem.Spec PyProof.Rows L2
section
variable {X : Cx} {CX : CXT} {k1 k2 k3 k4 : Nat} {f1 f2 f3 f4 : Addr} {fd1 fd2 fd3 fd4 : FuncData} {ps1 ps2 ps3 ps4 : List Str} {sp1 sp2 sp3 sp4 : Sp} {E : L2.St → XK} {fe e : Expr} {es : List Expr} {tf : TE} {t : TA} {pos : Pos}
/-- one of four defs is called; what it raises is wished for at the caller's slots -/
def tCallF4 (f1 f2 f3 f4 : Addr) (sp1 sp2 sp3 sp4 : Sp) (E : L2.St → XK) (tf : TE) (t : TA) : TE := fun σ H Q => tf σ H fun x H1 => ∃ (f : Addr) (sp : Sp), x = .ref f ∧ ((f = f1 ∧ sp = sp1) ∨ (f = f2 ∧ sp = sp2) ∨ (f = f3 ∧ sp = sp3) ∨ (f = f4 ∧ sp = sp4)) ∧ t σ H1 fun vs H2 => sp vs H2 Q (E σ)
theorem x_callF4 {σ : L2.St} {H : Hp} {Q : VK} : tCallF4 f1 f2 f3 f4 sp1 sp2 sp3 sp4 E tf t σ H Q = tf σ H fun x H1 => ∃ (f : Addr) (sp : Sp), x = .ref f ∧ ((f = f1 ∧ sp = sp1) ∨ (f = f2 ∧ sp = sp2) ∨ (f = f3 ∧ sp = sp3) ∨ (f = f4 ∧ sp = sp4)) ∧ t σ H1 fun vs H2 => sp vs H2 Q (E σ) := rfl
theorem pe_callF4 (hf : PE X fe tf) (F1 : FnOk X.prog X.w X.K X.mg X.base CX k1 f1 fd1 ps1 sp1) (r1 : Room k1 X.A) (kp1 : PySem.W.keepIn X.K (.ref f1) = true) (b1 : Binds X.K fd1 ps1 [])
    (F2 : FnOk X.prog X.w X.K X.mg X.base CX k2 f2 fd2 ps2 sp2) (r2 : Room k2 X.A) (kp2 : PySem.W.keepIn X.K (.ref f2) = true) (b2 : Binds X.K fd2 ps2 [])
    (F3 : FnOk X.prog X.w X.K X.mg X.base CX k3 f3 fd3 ps3 sp3) (r3 : Room k3 X.A) (kp3 : PySem.W.keepIn X.K (.ref f3) = true) (b3 : Binds X.K fd3 ps3 [])
    (F4 : FnOk X.prog X.w X.K X.mg X.base CX k4 f4 fd4 ps4 sp4) (r4 : Room k4 X.A) (kp4 : PySem.W.keepIn X.K (.ref f4) = true) (b4 : Binds X.K fd4 ps4 []) (hx : ∀ σ, PassesAt CX X σ (E σ)) (ha : PA X (e :: es) t)
    (ht : eval (.Call fe (e :: es) [] pos) X.env = (do callWith pos (← eval fe X.env) [] (backTo pos (starEach (e :: es) X.env)) (backToKw pos (keywordEach [] X.env))) := by rfl)
    (he : starEach (e :: es) X.env = (false, eval e X.env) :: starEach es X.env := by rfl) (hpl : (backTo pos (starEach es X.env)).any (·.1) = false := by rfl) :
    PE X (.Call fe (e :: es) [] pos) (tCallF4 f1 f2 f3 f4 sp1 sp2 sp3 sp4 E tf t) := by
  constructor
  intro pins s σ H Q I h
  refine Call_ (thn (hf.run pins s σ H _ I h) fun u s1 ⟨x, H1, I1, rx, q⟩ => ?_) ht
  obtain ⟨f, sp, rfl, c, q⟩ := q
  obtain rfl : u = Value.ref f := rx
  rcases c with ⟨rfl, rfl⟩ | ⟨rfl, rfl⟩ | ⟨rfl, rfl⟩ | ⟨rfl, rfl⟩
  · exact PySem.W.callWith_K (h₀ := X.base) I1.ok.mod.kin kp1 (thn (ha.run pos pins s1 σ H1 _ I1 q) fun us s2 ⟨vs, H2, I2, r, q2⟩ => ⟨I2.kIn, run_fnS F1 r1 b1 (hx σ) I2 r q2⟩) he hpl
  · exact PySem.W.callWith_K (h₀ := X.base) I1.ok.mod.kin kp2 (thn (ha.run pos pins s1 σ H1 _ I1 q) fun us s2 ⟨vs, H2, I2, r, q2⟩ => ⟨I2.kIn, run_fnS F2 r2 b2 (hx σ) I2 r q2⟩) he hpl
  · exact PySem.W.callWith_K (h₀ := X.base) I1.ok.mod.kin kp3 (thn (ha.run pos pins s1 σ H1 _ I1 q) fun us s2 ⟨vs, H2, I2, r, q2⟩ => ⟨I2.kIn, run_fnS F3 r3 b3 (hx σ) I2 r q2⟩) he hpl
  · exact PySem.W.callWith_K (h₀ := X.base) I1.ok.mod.kin kp4 (thn (ha.run pos pins s1 σ H1 _ I1 q) fun us s2 ⟨vs, H2, I2, r, q2⟩ => ⟨I2.kIn, run_fnS F4 r4 b4 (hx σ) I2 r q2⟩) he hpl
end
theorem x_lockE {t : TE} {σ : L2.St} {H : Hp} {Q : VK} : tLockE t σ H Q = ∃ d u, H d = some u ∧ Mut (some u) ∧ ∀ od, t σ (upd H d (.frz od u)) fun v H' => H' d = some (.frz od u) ∧ Q v (upd H' d u) := rfl
theorem x_daug {td ty tv : TE} {rd : V → V → Hp → VK → Prop} {D : Ends} {σ : L2.St} {H : Hp} : sDAug td ty tv rd D σ H = td σ H fun x H1 => ty σ H1 fun y H2 => ∃ a v, x = .ref a ∧ DGet H2 a y (some v) ∧ tv σ H2 fun y2 H3 => rd v y2 H3 fun z H4 => ∃ H5, DPut H4 a y z H5 ∧ D.nx σ H5 := rfl
section
variable {X : Cx}
open L2.DX
theorem sw_trueD {kx vx : Expr} {gs : List Comprehension} {scope : Scope} {pos py : Pos} {y : Str} {l : Nat} {env : Env} (hk : env.scope.kind = .function) (hy : env.scope.names.lookup y = some .local) (hl : (py.line == pos.line) = true)
    (ha : (scope.names.any fun (n, k) => n == y && (k == .local || k == .cell)) = false) : swapsWith (.DictComp kx vx gs scope pos) (some (.Name y py)) l env = pure true := by
  have ky : env.kindOf y = some .local := hy
  have hb : env.blockKind = .function := by unfold Env.blockKind; rw [hk]; rfl
  unfold swapsWith
  simp only [hb, ky, ha, Expr.pos, hl]
  rfl
/-- name = {..} on one line, the name a local -/
theorem ps_setDc {i : Nat} {y : Str} {py : Pos} {kx vx tg iter : Expr} {ifs : List Expr} {scope : Scope} {own : List (Str × Nat)} {pos spos : Pos} {wi : TI} {g : TG} {tt : TT} {tk tv : TE} (hc : X.calm = true) (hN : X.N.Nodup) (hy : X.N[i]? = some y) (hyl : X.env.scope.names.lookup y = some .local)
    (hsw : swapsWith (.DictComp kx vx [⟨tg, iter, ifs, 0⟩] scope pos) (some (.Name y py)) spos.line X.env = pure true) (hi : PI X tg iter wi) (ok : BlkOk X.N X.env.scope scope own)
    (hg : ∀ (s : Shared) (H : Hp) (C : Addr) (cl : List (Str × Addr)) (fp : List Addr), PG (X.blk s H scope (compEnvC scope cl C X.env) fp) tg g) (ht : ∀ (s : Shared) (H : Hp) (C : Addr) (cl : List (Str × Addr)) (fp : List Addr), PTs (X.blk s H scope (compEnvC scope cl C X.env) fp) ifs tt)
    (hk : ∀ (s : Shared) (H : Hp) (C : Addr) (cl : List (Str × Addr)) (fp : List Addr), PE (X.blk s H scope (compEnvC scope cl C X.env) fp) kx tk)
    (he : ∀ (s : Shared) (H : Hp) (C : Addr) (cl : List (Str × Addr)) (fp : List Addr), PE (X.blk s H scope (compEnvC scope cl C X.env) fp) vx tv) (hs : ∀ x, foldedSetIterable iter X.env x = pure x := by intro _; rfl) :
    PS X (.Assign [.Name y py] (.DictComp kx vx [⟨tg, iter, ifs, 0⟩] scope pos) spos) (tAsg (tDc wi g tt tk tv (own.map (·.2))) (gName i)) := by
  refine ⟨fun pins s σ H D I h => ?_⟩
  rw [exec_Assign_Name_used _ _ _ _ hsw]
  refine wpAny_bind (wpAny_standAt (wpAny_bind ?_))
  show wpAny _ X.A (do let _ ← comprehension (.DictComp kx vx [⟨tg, iter, ifs, 0⟩] scope pos) scope X.env (firstIterPos [⟨tg, iter, ifs, 0⟩] pos) newDict false (eval iter X.env) (some (assign (.Name y py) X.env))) _ _ s
  have h : tDc wi g tt tk tv (own.map (·.2)) σ H (fun x H1 => gName i x σ H1 D.nx) := h
  refine wpAny_bind (thn (dc_core (Qf := fun _ s' => SP X pins D .next s') hc hN I hi ok hg ht hk he hs h fun L C s' m H' I' q hn f => ?_) fun _ s' hq => wpAny_pure (wpAny_pure hq))
  show wpAny _ _ (assign (.Name y py) X.env (.ref L)) _ _ _
  refine wpAny_assign_Name (store_ok2 (v := V.ref L) I' hN hy (.inl hyl) rfl (fun s2 I2 ⟨a, sb, ha⟩ => ?_) (.inr hyl))
  obtain ⟨f0, f1, f2, f3, f4, f5⟩ := f
  have haC : C ≠ a := by
    rcases ha with z | z
    · rw [z]; exact f1
    · exact fun e => f4 y a z e.symm
  refine ⟨m, hn.sameBut sb haC, fun h3 sb3 => ?_⟩
  exact ⟨_, H', I2.turned (t' := s2.toks) (fun b o hb e => (sb3.2 b hb).trans e) f0 f1 f3 f4 f5, q⟩
end
theorem x_lockS {t : TS} {D : Ends} {σ : L2.St} {H : Hp} : tLock t D σ H = ∃ d u, H d = some u ∧ Mut (some u) ∧ ∀ od, t ⟨fun σ' H' => H' d = some (.frz od u) ∧ D.nx σ' (upd H' d u), fun v H' => H' d = some (.frz od u) ∧ D.rt v (upd H' d u), fun σ' H' => H' d = some (.frz od u) ∧ D.bk σ' (upd H' d u), fun σ' H' => H' d = some (.frz od u) ∧ D.ct σ' (upd H' d u)⟩ σ (upd H d (.frz od u)) := rfl
theorem dcg_keys {d : Addr} {o : Obj} {kvs0 : List (Key × V)} {g : TG} {tt : TT} {tk tv : TE} {vs : List Nat} {σ : L2.St} {H1 : Hp} {Q : VK} {D : Addr} (Pv : Nat → Hp → Prop) (h0 : Pv 0 (upd H1 D (.dK []))) (hl : ∀ i H, i ≤ kvs0.length → Pv i H → H d = some (.frz o (.dK kvs0)))
    (hs : ∀ i k v H, kvs0[i]? = some (k, v) → Pv i H → g (kV k) (wipe σ vs) H fun σ2 H2 => wipe σ2 vs = wipe σ vs ∧ tt σ2 H2 fun b H3 =>
      if b = true then tk σ2 H3 fun y H4 => tv σ2 H4 fun z H5 => ∃ kvs k, y = kV k ∧ H5 D = some (.dK kvs) ∧ kvs.length < sizeLine ∧ Pv (i + 1) (upd H5 D (.dK (putK kvs k z))) else Pv (i + 1) H3) (hd : ∀ H, Pv kvs0.length H → Q (.ref D) H) : DcG (Itk d o kvs0) g tt tk tv vs σ D H1 Q := by
  refine ⟨fun i m H => m = kvs0.length - i ∧ i ≤ kvs0.length ∧ Pv i H, ⟨kvs0.length, by simp, Nat.zero_le _, h0⟩, ?_⟩
  rintro i m H ⟨rfl, hi, p⟩
  have q := hl i H hi p
  by_cases hlt : i < kvs0.length
  · refine .inr ⟨⟨q, hlt⟩, Pv (i + 1), fun H' p' => ⟨kvs0.length - (i + 1), by omega, rfl, hlt, p'⟩, fun x H' y => ?_⟩
    obtain ⟨rfl, k, v, e, rfl⟩ := y
    exact hs i k v _ e p
  · have e : i = kvs0.length := by omega
    subst e
    exact .inl ⟨⟨q, Nat.le_refl _⟩, hd H p⟩
end BC

set_option Elab.async false
set_option linter.all false
set_option maxRecDepth 100000
set_option maxHeartbeats 4000000
/-! effects of visits: for each page its exit -/
namespace EF
open PySem PySem.Spec PyProof.Rows L2 BC TR
/-- the exit of a page: what comes behind its last visit -/
def nx : List Int → Int → Option Int
  | [], _ => none
  | a :: r, p => match nx r p with
    | some y => some y
    | none => if a = p then some (r.headD a) else none
theorem nx_some {a p y : Int} {r : List Int} (h : nx r p = some y) : nx (a :: r) p = some y := by
  show (match nx r p with | some y => some y | none => _) = _
  rw [h]
theorem nx_none {a p : Int} {r : List Int} (h : nx r p = none) : nx (a :: r) p = if a = p then some (r.headD a) else none := by
  show (match nx r p with | some y => some y | none => _) = _
  rw [h]
theorem nx_mem : ∀ {row : List Int} {p : Int}, p ∈ row → ∃ y, nx row p = some y
  | a :: r, p, h => by
    cases e : nx r p with
    | some y => exact ⟨y, nx_some e⟩
    | none =>
      rcases List.mem_cons.mp h with rfl | h
      · exact ⟨_, by rw [nx_none e, if_pos rfl]⟩
      · obtain ⟨y, hy⟩ := nx_mem h
        rw [e] at hy
        cases hy
theorem headD_mem {a : Int} : ∀ {r : List Int}, r.headD a ∈ a :: r
  | [] => List.mem_cons_self
  | b :: r => List.mem_cons_of_mem _ List.mem_cons_self
theorem mem_nx : ∀ {row : List Int} {p y : Int}, nx row p = some y → p ∈ row ∧ y ∈ row
  | a :: r, p, y, h => by
    cases e : nx r p with
    | some z =>
      rw [nx_some e] at h
      cases h
      obtain ⟨h1, h2⟩ := mem_nx e
      exact ⟨List.mem_cons_of_mem _ h1, List.mem_cons_of_mem _ h2⟩
    | none =>
      rw [nx_none e] at h
      split at h
      · next q =>
        cases h
        subst q
        exact ⟨List.mem_cons_self, headD_mem⟩
      · cases h
/-- the pages by their last visits -/
def dd : List Int → List Int
  | [] => []
  | a :: r => if a ∈ r then dd r else a :: dd r
theorem dd_mem : ∀ {row : List Int} {p : Int}, p ∈ dd row ↔ p ∈ row
  | [], p => Iff.rfl
  | a :: r, p => by
    unfold dd
    split
    · next h =>
      rw [dd_mem (row := r), List.mem_cons]
      exact ⟨fun m => .inr m, fun m => m.elim (fun e => by rw [e]; exact h) id⟩
    · rw [List.mem_cons, List.mem_cons, dd_mem (row := r)]
theorem dd_nodup : ∀ row : List Int, (dd row).Nodup
  | [] => List.nodup_nil
  | a :: r => by
    unfold dd
    split
    · exact dd_nodup r
    · next h => exact List.nodup_cons.mpr ⟨fun m => h (dd_mem.mp m), dd_nodup r⟩
def ix (row : List Int) (p : Int) : Nat := (dd row).idxOf p
theorem ix_lt {row : List Int} {p : Int} (h : p ∈ row) : ix row p < (dd row).length := List.idxOf_lt_length_of_mem (dd_mem.mpr h)
/-- the last page -/
def lst (row : List Int) : Int := row.getLast?.getD 0
theorem lst_cons {a b : Int} {r : List Int} : lst (a :: b :: r) = lst (b :: r) := by unfold lst; rw [List.getLast?_cons_cons]
theorem nx_ix : ∀ {row : List Int} {p y : Int}, nx row p = some y → (y = p ∧ p = lst row) ∨ (p ≠ y ∧ p ≠ lst row ∧ ix row p < ix row y)
  | a :: r, p, y, h => by
    cases e : nx r p with
    | some z =>
      rw [nx_some e] at h
      cases h
      obtain ⟨hp, hy⟩ := mem_nx e
      obtain ⟨b, r', rfl⟩ : ∃ b r', r = b :: r' := by
        cases r with
        | nil => cases hp
        | cons b r' => exact ⟨b, r', rfl⟩
      rw [lst_cons]
      rcases nx_ix e with ⟨h1, h2⟩ | ⟨h1, h2, h3⟩
      · exact .inl ⟨h1, h2⟩
      · refine .inr ⟨h1, h2, ?_⟩
        unfold ix dd
        split
        · exact h3
        · next na =>
          have pa : ¬ a = p := fun e => na (by rw [e]; exact hp)
          have ya : ¬ a = y := fun e => na (by rw [e]; exact hy)
          rw [List.idxOf_cons, List.idxOf_cons, beq_eq_false_iff_ne.mpr pa, beq_eq_false_iff_ne.mpr ya]
          show (dd (b :: r')).idxOf p + 1 < (dd (b :: r')).idxOf y + 1
          unfold ix at h3
          omega
    | none =>
      rw [nx_none e] at h
      split at h
      · next q =>
        subst q
        cases h
        have na : a ∉ r := fun m => by
          obtain ⟨z, hz⟩ := nx_mem m
          rw [e] at hz
          cases hz
        cases r with
        | nil => exact .inl ⟨rfl, rfl⟩
        | cons b r' =>
          have ab : a ≠ b := fun z => na (by rw [z]; exact List.mem_cons_self)
          refine .inr ⟨ab, ?_, ?_⟩
          · rw [lst_cons]
            intro z
            refine na ?_
            rw [z]
            unfold lst
            rw [List.getLast?_eq_some_getLast (by simp)]
            exact List.getLast_mem _
          · unfold ix dd
            rw [if_neg na, List.idxOf_cons_self, List.idxOf_cons, beq_eq_false_iff_ne.mpr (show ¬ a = (b :: r').headD a from ab)]
            exact Nat.succ_pos _
      · cases h
theorem lst_mem : ∀ {row : List Int}, row ≠ [] → lst row ∈ row := fun {row} h => by
  unfold lst
  rw [List.getLast?_eq_some_getLast h]
  exact List.getLast_mem h
theorem nx_lst {row : List Int} (h : row ≠ []) : nx row (lst row) = some (lst row) := by
  obtain ⟨y, hy⟩ := nx_mem (lst_mem h)
  rcases nx_ix hy with ⟨h1, _⟩ | ⟨_, h2, _⟩
  · rw [hy, h1]
  · exact absurd rfl h2
/-- do so many steps lead to the root? -/
def lead (f : Int → Int) (root : Int) : Nat → Int → Bool
  | 0, _ => false
  | n + 1, p => if p = root then true else lead f root n (f p)
def nxt (row : List Int) (p : Int) : Int := (nx row p).getD 0
theorem nxt_at {row : List Int} {p y : Int} (h : nx row p = some y) : nxt row p = y := by unfold nxt; rw [h]; rfl
theorem lead_ok {row : List Int} : ∀ (n : Nat) {p : Int}, p ∈ row → (dd row).length ≤ n + ix row p → lead (nxt row) (lst row) n p = true
  | 0, p, hp, h => by have := ix_lt hp; omega
  | n + 1, p, hp, h => by
    show (if p = lst row then true else _) = true
    split
    · rfl
    · next ne =>
      obtain ⟨y, hy⟩ := nx_mem hp
      rw [nxt_at hy]
      rcases nx_ix hy with ⟨_, h2⟩ | ⟨_, _, h3⟩
      · exact absurd h2 ne
      · exact lead_ok n (mem_nx hy).2 (by omega)
/-! ### as a list of pairs in order -/
def exs (row : List Int) : List (Int × Int) := ((List.range 40).map fun i : Nat => (i : Int)).filterMap fun p => (nx row p).map fun y => (p, y)
theorem mem_exs {row : List Int} (hp : Pg 40 row) {x y : Int} : (x, y) ∈ exs row ↔ nx row x = some y := by
  unfold exs
  rw [List.mem_filterMap]
  constructor
  · rintro ⟨p, _, h⟩
    cases e : nx row p with
    | none => rw [e] at h; cases h
    | some z => rw [e] at h; cases h; exact e
  · intro h
    have hx := hp x (mem_nx h).1
    refine ⟨x, List.mem_map.mpr ⟨x.toNat, List.mem_range.mpr (by omega), by omega⟩, ?_⟩
    rw [h]
    rfl
def ltF (a b : Int × Int) : Prop := a.1 < b.1
theorem exs_srt (row : List Int) : (exs row).Pairwise ltF := by
  unfold exs
  rw [List.pairwise_filterMap]
  have : ((List.range 40).map fun i : Nat => (i : Int)).Pairwise (· < ·) := by
    rw [List.pairwise_map]
    exact List.pairwise_lt_range.imp fun h => by omega
  refine this.imp fun {a b} h x hx y hy => ?_
  have ex : x.1 = a := by
    cases e : nx row a with
    | none => rw [e] at hx; cases hx
    | some z => rw [e] at hx; cases hx; rfl
  have ey : y.1 = b := by
    cases e : nx row b with
    | none => rw [e] at hy; cases hy
    | some z => rw [e] at hy; cases hy; rfl
  show x.1 < y.1
  rw [ex, ey]
  exact h
theorem srt_nodup {l : List (Int × Int)} (h : l.Pairwise ltF) : (l.map (·.1)).Nodup := by
  rw [List.nodup_iff_pairwise_ne, List.pairwise_map]
  exact h.imp fun {a b} h e => by
    have : a.1 < b.1 := h
    omega
/-- two lists in order with the same members -/
theorem srt_uniq : ∀ {l m : List (Int × Int)}, l.Pairwise ltF → m.Pairwise ltF → (∀ q, q ∈ l ↔ q ∈ m) → l = m
  | [], [], _, _, _ => rfl
  | [], b :: m, _, _, h => (List.not_mem_nil ((h b).mpr List.mem_cons_self)).elim
  | a :: l, [], _, _, h => (List.not_mem_nil ((h a).mp List.mem_cons_self)).elim
  | a :: l, b :: m, hl, hm, h => by
    rw [List.pairwise_cons] at hl hm
    have e : a = b := by
      have h1 := (h a).mp List.mem_cons_self
      have h2 := (h b).mpr List.mem_cons_self
      rcases List.mem_cons.mp h1 with h1 | h1
      · exact h1
      · rcases List.mem_cons.mp h2 with h2 | h2
        · exact h2.symm
        · have a1 : b.1 < a.1 := hm.1 a h1
          have a2 : a.1 < b.1 := hl.1 b h2
          omega
    subst e
    have ne : ∀ {k : List (Int × Int)}, (∀ q ∈ k, ltF a q) → a ∉ k := fun hk m => by
      have : a.1 < a.1 := hk a m
      omega
    rw [srt_uniq hl.2 hm.2 fun q => ?_]
    have hq := h q
    rw [List.mem_cons, List.mem_cons] at hq
    by_cases c : q = a
    · subst c
      exact ⟨fun m => absurd m (ne hl.1), fun m => absurd m (ne hm.1)⟩
    · exact ⟨fun m => (hq.mp (.inr m)).resolve_left c, fun m => (hq.mpr (.inr m)).resolve_left c⟩
/-- numbers in order with the same members -/
theorem ints_uniq : ∀ {l m : List Int}, l.Pairwise (· < ·) → m.Pairwise (· < ·) → (∀ q, q ∈ l ↔ q ∈ m) → l = m
  | [], [], _, _, _ => rfl
  | [], b :: m, _, _, h => (List.not_mem_nil ((h b).mpr List.mem_cons_self)).elim
  | a :: l, [], _, _, h => (List.not_mem_nil ((h a).mp List.mem_cons_self)).elim
  | a :: l, b :: m, hl, hm, h => by
    rw [List.pairwise_cons] at hl hm
    have e : a = b := by
      have h1 := (h a).mp List.mem_cons_self
      have h2 := (h b).mpr List.mem_cons_self
      rcases List.mem_cons.mp h1 with h1 | h1
      · exact h1
      · rcases List.mem_cons.mp h2 with h2 | h2
        · exact h2.symm
        · have a1 := hm.1 a h1
          have a2 := hl.1 b h2
          omega
    subst e
    have ne : ∀ {k : List Int}, (∀ q ∈ k, a < q) → a ∉ k := fun hk m => by
      have := hk a m
      omega
    rw [ints_uniq hl.2 hm.2 fun q => ?_]
    have hq := h q
    rw [List.mem_cons, List.mem_cons] at hq
    by_cases c : q = a
    · subst c
      exact ⟨fun m => absurd m (ne hl.1), fun m => absurd m (ne hm.1)⟩
    · exact ⟨fun m => (hq.mp (.inr m)).resolve_left c, fun m => (hq.mpr (.inr m)).resolve_left c⟩
/-! ### a dict of numbers by numbers -/
def getI (qs : List (Int × Int)) (x : Int) : Option Int := (qs.find? fun q => decide (q.1 = x)).map (·.2)
def putI (qs : List (Int × Int)) (x y : Int) : List (Int × Int) := if (qs.any fun q => decide (q.1 = x)) = true then qs.map (fun q => if q.1 = x then (q.1, y) else q) else qs ++ [(x, y)]
theorem getI_val (x : Int) : ∀ qs : List (Int × Int), valV (qs.map itK) (Sum.inl x) = (getI qs x).map V.int
  | [] => rfl
  | q :: qs => by
    have ih := getI_val x qs
    rw [List.map_cons]
    by_cases e : q.1 = x
    · rw [valV_pos (by show (Sum.inl q.1 : Key) = Sum.inl x; rw [e])]
      simp [getI, e, itK]
    · rw [valV_neg (by show ¬ (Sum.inl q.1 : Key) = Sum.inl x; exact fun z => e (Sum.inl.inj z)), ih]
      simp [getI, e]
theorem any_itK (x : Int) (qs : List (Int × Int)) : ((qs.map itK).any fun kv => decide (kv.1 = Sum.inl x)) = qs.any fun q => decide (q.1 = x) := by
  rw [List.any_map]
  congr 1
  funext q
  exact decide_eq_decide.mpr ⟨fun e => Sum.inl.inj e, fun e => congrArg Sum.inl e⟩
theorem putI_put (qs : List (Int × Int)) (x y : Int) : putK (qs.map itK) (Sum.inl x) (.int y) = (putI qs x y).map itK := by
  unfold putK putI
  rw [any_itK]
  by_cases c : (qs.any fun q => decide (q.1 = x)) = true
  · rw [if_pos c, if_pos c, List.map_map, List.map_map]
    refine List.map_congr_left fun q _ => ?_
    show (if (Sum.inl q.1 : Key) = Sum.inl x then ((Sum.inl q.1 : Key), V.int y) else (Sum.inl q.1, V.int q.2)) = itK (if q.1 = x then (q.1, y) else q)
    by_cases e : q.1 = x
    · rw [if_pos (by rw [e]), if_pos e]; rfl
    · rw [if_neg (fun z => e (Sum.inl.inj z)), if_neg e]; rfl
  · rw [if_neg c, if_neg c, List.map_append]
    rfl
theorem getI_any (x : Int) : ∀ qs : List (Int × Int), (qs.any fun q => decide (q.1 = x)) = (getI qs x).isSome
  | [] => rfl
  | q :: qs => by
    rw [List.any_cons, getI_any x qs]
    by_cases e : q.1 = x
    · simp [getI, e]
    · simp [getI, e]
theorem getI_map (x y z : Int) : ∀ qs : List (Int × Int), getI (qs.map fun q => if q.1 = x then (q.1, y) else q) z = if z = x then (getI qs z).map fun _ => y else getI qs z
  | [] => by simp [getI]
  | q :: qs => by
    have ih := getI_map x y z qs
    by_cases e : q.1 = z
    · by_cases c : z = x
      · subst c; simp [getI, e]
      · rw [if_neg c]
        have : ¬ q.1 = x := fun w => c (by rw [← e, w])
        simp [getI, e, this, c]
    · have hk : (if q.1 = x then (q.1, y) else q).1 = q.1 := by split <;> rfl
      have g1 : getI ((q :: qs).map fun q => if q.1 = x then (q.1, y) else q) z = getI (qs.map fun q => if q.1 = x then (q.1, y) else q) z := by
        unfold getI
        rw [List.map_cons, List.find?_cons, hk, decide_eq_false e]
      have g2 : getI (q :: qs) z = getI qs z := by
        unfold getI
        rw [List.find?_cons, decide_eq_false e]
      rw [g1, g2, ih]
theorem getI_append (x y z : Int) (qs : List (Int × Int)) (h : getI qs x = none) : getI (qs ++ [(x, y)]) z = if z = x then some y else getI qs z := by
  unfold getI at h ⊢
  rw [List.find?_append]
  cases c : qs.find? fun q => decide (q.1 = z) with
  | some q =>
    by_cases e : z = x
    · subst e; rw [c] at h; cases h
    · rw [if_neg e]; rfl
  | none =>
    by_cases e : z = x
    · subst e; simp
    · have : ¬ x = z := fun w => e w.symm
      simp [this, e]
theorem getI_put (qs : List (Int × Int)) (x y z : Int) : getI (putI qs x y) z = if z = x then some y else getI qs z := by
  unfold putI
  by_cases c : (qs.any fun q => decide (q.1 = x)) = true
  · rw [if_pos c, getI_map]
    rw [getI_any] at c
    by_cases e : z = x
    · subst e
      rw [if_pos rfl, if_pos rfl]
      cases h : getI qs z with
      | none => rw [h] at c; cases c
      | some v => rfl
    · rw [if_neg e, if_neg e]
  · rw [if_neg c]
    rw [getI_any] at c
    exact getI_append x y z qs (by cases h : getI qs x with | none => rfl | some v => rw [h] at c; exact absurd rfl c)
theorem putI_nodup {qs : List (Int × Int)} {x y : Int} (h : (qs.map (·.1)).Nodup) : ((putI qs x y).map (·.1)).Nodup := by
  unfold putI
  split
  · rw [List.map_map]
    have e : ((fun p : Int × Int => p.1) ∘ fun q : Int × Int => if q.1 = x then (q.1, y) else q) = fun p => p.1 := funext fun p => by
      show (if p.1 = x then (p.1, y) else p).1 = p.1
      split <;> rfl
    rw [e]
    exact h
  · next c =>
    rw [List.map_append, List.nodup_append]
    refine ⟨h, by simp, fun a ha b hb e => ?_⟩
    obtain ⟨p, hp, rfl⟩ := List.mem_map.mp ha
    have hb' : b = x := by simpa using hb
    refine c (List.any_eq_true.mpr ⟨p, hp, decide_eq_true ?_⟩)
    rw [e, hb']
theorem putI_len (qs : List (Int × Int)) (x y : Int) : (putI qs x y).length ≤ qs.length + 1 := by
  unfold putI
  split
  · rw [List.length_map]; omega
  · rw [List.length_append, List.length_singleton]; omega
theorem getI_mem {qs : List (Int × Int)} (nd : (qs.map (·.1)).Nodup) {x y : Int} : (x, y) ∈ qs ↔ getI qs x = some y := by
  induction qs with
  | nil => exact ⟨fun h => (List.not_mem_nil h).elim, fun h => by cases h⟩
  | cons q qs ih =>
    rw [List.map_cons, List.nodup_cons] at nd
    by_cases e : q.1 = x
    · have g : getI (q :: qs) x = some q.2 := by simp [getI, e]
      rw [g]
      constructor
      · intro h
        rcases List.mem_cons.mp h with h | h
        · rw [← h]
        · exact absurd (List.mem_map.mpr ⟨(x, y), h, e.symm⟩) nd.1
      · intro h
        have : q = (x, y) := by
          have := Option.some.inj h
          rw [← e, ← this]
        rw [this]
        exact List.mem_cons_self
    · have g : getI (q :: qs) x = getI qs x := by simp [getI, e]
      rw [g, ← ih nd.2, List.mem_cons]
      exact ⟨fun h => h.resolve_left fun z => e (by rw [← z]), .inr⟩
theorem srt_of {rs qs : List (Int × Int)} (p : rs.Perm qs) (s : rs.Pairwise leP) (nd : (qs.map (·.1)).Nodup) : rs.Pairwise ltF := by
  have nr : (rs.map (·.1)).Nodup := (p.map (·.1)).nodup_iff.mpr nd
  rw [List.nodup_iff_pairwise_ne, List.pairwise_map] at nr
  refine (s.and nr).imp fun {a b} h => ?_
  have h1 : a.1 < b.1 ∨ (a.1 = b.1 ∧ a.2 ≤ b.2) := h.1
  have h2 : a.1 ≠ b.1 := h.2
  show a.1 < b.1
  omega
/-- what a dict of all exits gives when it is sorted -/
theorem srt_exs {row : List Int} (hp : Pg 40 row) {rs qs : List (Int × Int)} (p : rs.Perm qs) (s : rs.Pairwise leP) (nd : (qs.map (·.1)).Nodup) (g : ∀ x, getI qs x = nx row x) : rs = exs row :=
  srt_uniq (srt_of p s nd) (exs_srt row) fun q => by
    obtain ⟨x, y⟩ := q
    rw [mem_exs hp, ← g x, ← getI_mem nd, p.mem_iff]
/-! ### the dict as it is filled from the front -/
def foldP (qs : List (Int × Int)) : List Int → List (Int × Int)
  | [] => qs
  | a :: r => foldP (putI qs a (r.headD a)) r
theorem foldP_get (x : Int) : ∀ (row : List Int) (qs : List (Int × Int)), getI (foldP qs row) x = match nx row x with | some y => some y | none => getI qs x
  | [], qs => rfl
  | a :: r, qs => by
    show getI (foldP (putI qs a (r.headD a)) r) x = _
    rw [foldP_get x r]
    cases e : nx r x with
    | some y => rw [nx_some e]
    | none =>
      rw [nx_none e]
      show getI (putI qs a (r.headD a)) x = _
      rw [getI_put]
      by_cases c : x = a
      · rw [if_pos c, if_pos c.symm]
      · rw [if_neg c, if_neg (fun z => c z.symm)]
theorem foldP_nodup : ∀ (row : List Int) (qs : List (Int × Int)), (qs.map (·.1)).Nodup → ((foldP qs row).map (·.1)).Nodup
  | [], _, h => h
  | a :: r, qs, h => foldP_nodup r _ (putI_nodup h)
theorem foldP_all (row : List Int) (x : Int) : getI (foldP [] row) x = nx row x := by
  rw [foldP_get]
  cases nx row x <;> rfl
/-! ### first page, root, leaves -/
def rootsOf (qs : List (Int × Int)) : List Int := (qs.filter fun q => decide (q.1 = q.2)).map (·.1)
def usedOf (qs : List (Int × Int)) : List Int := (qs.filter fun q => !decide (q.1 = q.2)).map (·.2)
def leavesOf (qs : List (Int × Int)) : List Int := (qs.filter fun q => !decide (q.1 ∈ usedOf qs)).map (·.1)
theorem filter_one {α : Type} {P : α → Bool} {a : α} : ∀ {l : List α}, l.Nodup → a ∈ l → (∀ b ∈ l, P b = true ↔ b = a) → l.filter P = [a]
  | [], _, h, _ => (List.not_mem_nil h).elim
  | b :: l, nd, h, hP => by
    rw [List.nodup_cons] at nd
    rcases List.mem_cons.mp h with e | h
    · subst e
      rw [List.filter_cons_of_pos ((hP a List.mem_cons_self).mpr rfl)]
      congr 1
      rw [List.filter_eq_nil_iff]
      intro c hc pc
      have := (hP c (List.mem_cons_of_mem _ hc)).mp pc
      exact nd.1 (this ▸ hc)
    · have nb : ¬ P b = true := fun pb => by
        have := (hP b List.mem_cons_self).mp pb
        exact nd.1 (this ▸ h)
      rw [List.filter_cons_of_neg nb]
      exact filter_one nd.2 h fun c hc => hP c (List.mem_cons_of_mem _ hc)
theorem srt_nd {l : List (Int × Int)} (h : l.Pairwise ltF) : l.Nodup := by
  rw [List.nodup_iff_pairwise_ne]
  exact h.imp fun {a b} h e => by
    have : a.1 < b.1 := h
    rw [e] at this
    omega
theorem roots_exs {row : List Int} (hp : Pg 40 row) (h : row ≠ []) : rootsOf (exs row) = [lst row] := by
  unfold rootsOf
  rw [filter_one (a := (lst row, lst row)) (srt_nd (exs_srt row)) ((mem_exs hp).mpr (nx_lst h)) fun b hb => ?_]
  · rfl
  · obtain ⟨x, y⟩ := b
    have hx := (mem_exs hp).mp hb
    rw [decide_eq_true_iff]
    constructor
    · intro e
      have e' : x = y := e
      rcases nx_ix hx with ⟨_, h2⟩ | ⟨h1, _⟩
      · rw [← e', h2]
      · exact absurd e' h1
    · intro e
      cases e
      rfl
theorem exs_len {row : List Int} (hp : Pg 40 row) : (exs row).length = (dd row).length := by
  have h1 : ((exs row).map (·.1)).Nodup := srt_nodup (exs_srt row)
  have h2 : ((exs row).map (·.1)).Perm (dd row) := by
    rw [List.perm_ext_iff_of_nodup h1 (dd_nodup row)]
    intro x
    rw [dd_mem]
    constructor
    · intro h
      obtain ⟨⟨a, b⟩, hq, rfl⟩ := List.mem_map.mp h
      exact (mem_nx ((mem_exs hp).mp hq)).1
    · intro h
      obtain ⟨y, hy⟩ := nx_mem h
      exact List.mem_map.mpr ⟨(x, y), (mem_exs hp).mpr hy, rfl⟩
  have := h2.length_eq
  rw [List.length_map] at this
  exact this
theorem exs_len40 (row : List Int) : (exs row).length ≤ 40 := by
  unfold exs
  refine Nat.le_trans (List.length_filterMap_le _ _) ?_
  rw [List.length_map, List.length_range]
  exact Nat.le_refl _
end EF

set_option Elab.async false
set_option linter.all false
set_option maxRecDepth 100000
set_option maxHeartbeats 4000000
/-! visits behind a trail: page by page, and by the exits -/
namespace EF
open PySem PySem.Spec PyProof.Rows L2 BC TR
/-- from a page along its exits -/
def ch : List Int → Int → List Int
  | [], _ => []
  | a :: r, p => if p ∈ r then ch r p else if p = a then a :: (match r with | [] => [] | b :: _ => ch r b) else []
/-- one more page -/
def st : List Int → Int → List Int
  | [], a => [a]
  | p :: P, a => if p = a then [a] else p :: st P a
def play (P : List Int) : List Int → List Int
  | [] => P
  | a :: r => play (st P a) r
/-- by the effect -/
def ef (row : List Int) : List Int → List Int
  | [] => match row with
    | [] => []
    | b :: _ => ch row b
  | p :: P => if p ∈ row then ch row p else p :: ef row P
theorem ch_self (a : Int) (r : List Int) (h : a ∉ r) : ch (a :: r) a = a :: ef r [] := by
  show (if a ∈ r then _ else if a = a then _ else _) = _
  rw [if_neg h, if_pos rfl]
  cases r <;> rfl
theorem ch_in {a p : Int} {r : List Int} (h : p ∈ r) : ch (a :: r) p = ch r p := by
  show (if p ∈ r then _ else _) = _
  rw [if_pos h]
theorem ef_one (a : Int) (r : List Int) : ef r [a] = ch (a :: r) a := by
  show (if a ∈ r then _ else _) = _
  by_cases h : a ∈ r
  · rw [if_pos h, ch_in h]
  · rw [if_neg h, ch_self a r h]
theorem ef_st (a : Int) (r : List Int) : ∀ P : List Int, ef r (st P a) = ef (a :: r) P
  | [] => by
    show ef r [a] = ch (a :: r) a
    exact ef_one a r
  | p :: P => by
    by_cases e : p = a
    · subst e
      show ef r (if p = p then _ else _) = if p ∈ p :: r then _ else _
      rw [if_pos rfl, if_pos List.mem_cons_self]
      exact ef_one p r
    · show ef r (if p = a then _ else p :: st P a) = if p ∈ a :: r then _ else p :: ef (a :: r) P
      rw [if_neg e]
      show (if p ∈ r then _ else p :: ef r (st P a)) = _
      by_cases h : p ∈ r
      · rw [if_pos h, if_pos (List.mem_cons_of_mem _ h), ch_in h]
      · rw [if_neg h, if_neg (fun m => (List.mem_cons.mp m).elim e h), ef_st a r P]
theorem play_ef : ∀ (row P : List Int), play P row = ef row P
  | [], P => by
    show P = ef [] P
    induction P with
    | nil => rfl
    | cons p P ih =>
      show p :: P = if p ∈ [] then _ else p :: ef [] P
      rw [if_neg List.not_mem_nil, ← ih]
  | a :: r, P => by
    show play (st P a) r = _
    rw [play_ef r, ef_st]
/-- the next page of the way -/
theorem ch_next : ∀ {row : List Int} {p y : Int}, nx row p = some y → (y = p → ch row p = [p]) ∧ (y ≠ p → ch row p = p :: ch row y)
  | a :: r, p, y, h => by
    cases e : nx r p with
    | some z =>
      rw [nx_some e] at h
      cases h
      obtain ⟨hp, hy⟩ := mem_nx e
      rw [ch_in hp, ch_in hy]
      exact ch_next e
    | none =>
      have hp : p ∉ r := fun m => by
        obtain ⟨z, hz⟩ := nx_mem m
        rw [e] at hz
        cases hz
      rw [nx_none e] at h
      split at h
      · next q =>
        subst q
        cases h
        rw [ch_self a r hp]
        cases r with
        | nil => exact ⟨fun _ => rfl, fun n => absurd rfl n⟩
        | cons b r' =>
          have ab : ¬ b = a := fun z => hp (by rw [z]; exact List.mem_cons_self)
          refine ⟨fun z => absurd z ab, fun _ => ?_⟩
          show a :: ch (b :: r') b = a :: ch (a :: b :: r') b
          rw [ch_in List.mem_cons_self]
      · cases h
theorem ch_hd {row : List Int} {p y : Int} (h : nx row p = some y) : ∃ t, ch row p = p :: t := by
  obtain ⟨h1, h2⟩ := ch_next h
  by_cases e : y = p
  · exact ⟨_, h1 e⟩
  · exact ⟨_, h2 e⟩
theorem ch_len : ∀ (row : List Int) (p : Int), (ch row p).length ≤ row.length
  | [], _ => Nat.le_refl _
  | a :: r, p => by
    show (if p ∈ r then _ else if p = a then _ else _ : List Int).length ≤ _
    split
    · exact Nat.le_trans (ch_len r p) (Nat.le_succ _)
    · split
      · cases r with
        | nil => exact Nat.le_refl _
        | cons b r' => exact Nat.succ_le_succ (ch_len (b :: r') b)
      · exact Nat.zero_le _
theorem ch_pg : ∀ {row : List Int} {p : Int}, ∀ x ∈ ch row p, x ∈ row
  | a :: r, p, x, h => by
    have h' := h
    unfold ch at h'
    split at h'
    · exact List.mem_cons_of_mem _ (ch_pg x h')
    · split at h'
      · rcases List.mem_cons.mp h' with rfl | h'
        · exact List.mem_cons_self
        · cases r with
          | nil => cases h'
          | cons b r' => exact List.mem_cons_of_mem _ (ch_pg x h')
      · cases h'
/-- the first page of the trail that is left, and what comes then -/
theorem ef_at {row : List Int} : ∀ {P : List Int} {i : Nat} {p : Int}, (∀ q ∈ P.take i, q ∉ row) → P[i]? = some p → p ∈ row → ef row P = P.take i ++ ch row p
  | [], _, _, _, h, _ => by cases h
  | q :: P, 0, p, _, h, hp => by
    have : q = p := by simpa using h
    subst this
    show (if q ∈ row then _ else _) = _
    rw [if_pos hp]
    rfl
  | q :: P, i + 1, p, h0, h, hp => by
    have hq : q ∉ row := h0 q (by rw [List.take_succ_cons]; exact List.mem_cons_self)
    show (if q ∈ row then _ else q :: ef row P) = _
    rw [if_neg hq, ef_at (fun x hx => h0 x (by rw [List.take_succ_cons]; exact List.mem_cons_of_mem _ hx)) (by simpa using h) hp]
    rfl
theorem ef_no {row : List Int} : ∀ {P : List Int}, (∀ q ∈ P, q ∉ row) → ef row P = P ++ ef row []
  | [], _ => rfl
  | q :: P, h => by
    show (if q ∈ row then _ else q :: ef row P) = _
    rw [if_neg (h q List.mem_cons_self), ef_no fun x hx => h x (List.mem_cons_of_mem _ hx)]
    rfl
/-- one more page, by its place -/
theorem st_no {a : Int} : ∀ {P : List Int}, a ∉ P → st P a = P ++ [a]
  | [], _ => rfl
  | p :: P, h => by
    rw [List.mem_cons, not_or] at h
    show (if p = a then _ else p :: st P a) = _
    rw [if_neg (fun z => h.1 z.symm), st_no h.2]
    rfl
theorem st_at {a : Int} : ∀ {P : List Int} {j : Nat}, P[j]? = some a → (∀ m, m < j → ∀ z, P[m]? = some z → z ≠ a) → st P a = P.take (j + 1)
  | [], _, h, _ => by cases h
  | p :: P, 0, h, _ => by
    have : p = a := by simpa using h
    subst this
    show (if p = p then _ else _) = _
    rw [if_pos rfl]
    rfl
  | p :: P, j + 1, h, h0 => by
    have hp : p ≠ a := h0 0 (by omega) p rfl
    show (if p = a then _ else p :: st P a) = _
    rw [if_neg hp, st_at (P := P) (j := j) (by simpa using h) fun m hm z hz => h0 (m + 1) (by omega) z (by simpa using hz)]
    rfl
theorem st_len (P : List Int) (a : Int) : (st P a).length ≤ P.length + 1 := by
  induction P with
  | nil => exact Nat.le_refl _
  | cons p P ih =>
    show (if p = a then _ else p :: st P a : List Int).length ≤ _
    split
    · simp
    · rw [List.length_cons, List.length_cons]; omega
theorem st_mem {P : List Int} {a : Int} : ∀ x ∈ st P a, x ∈ P ∨ x = a := by
  induction P with
  | nil => intro x h; exact .inr (List.mem_singleton.mp h)
  | cons p P ih =>
    intro x h
    have h' : x ∈ (if p = a then [a] else p :: st P a) := h
    split at h'
    · exact .inr (List.mem_singleton.mp h')
    · rcases List.mem_cons.mp h' with rfl | h'
      · exact .inl List.mem_cons_self
      · exact (ih x h').imp (List.mem_cons_of_mem _) id
theorem st_nodup {P : List Int} {a : Int} (h : P.Nodup) : (st P a).Nodup := by
  induction P with
  | nil => simp [st]
  | cons p P ih =>
    rw [List.nodup_cons] at h
    show (if p = a then [a] else p :: st P a : List Int).Nodup
    split
    · simp
    · next ne =>
      rw [List.nodup_cons]
      refine ⟨fun m => ?_, ih h.2⟩
      rcases st_mem p m with m | m
      · exact h.1 m
      · exact ne m
theorem play_ok : ∀ (row : List Int) {P : List Int}, P.Nodup → Pg 40 P → Pg 40 row → (play P row).Nodup ∧ Pg 40 (play P row)
  | [], P, h, hp, _ => ⟨h, hp⟩
  | a :: r, P, h, hp, hr => play_ok r (st_nodup h) (fun x hx => (st_mem x hx).elim (fun m => hp x m) fun e => by rw [e]; exact hr a List.mem_cons_self) fun x hx => hr x (List.mem_cons_of_mem _ hx)
theorem pg_len {P : List Int} (h : P.Nodup) (hp : Pg 40 P) : P.length ≤ 40 := by
  have h1 : P.Perm ((List.range 40).map (fun i : Nat => (i : Int)) |>.filter (· ∈ P)) := by
    rw [List.perm_ext_iff_of_nodup h ?_]
    · intro x
      rw [List.mem_filter]
      constructor
      · intro m
        have := hp x m
        exact ⟨List.mem_map.mpr ⟨x.toNat, List.mem_range.mpr (by omega), by omega⟩, decide_eq_true m⟩
      · intro m
        exact of_decide_eq_true m.2
    · refine List.Pairwise.filter _ ?_
      rw [List.pairwise_map]
      exact List.pairwise_lt_range.imp fun h => by omega
  rw [h1.length_eq]
  refine Nat.le_trans (List.length_filter_le _ _) ?_
  rw [List.length_map, List.length_range]
  exact Nat.le_refl _
end EF

set_option Elab.async false
set_option linter.all false
set_option maxRecDepth 100000
set_option maxHeartbeats 4000000
/-! shortest lists of visits with a given effect -/
namespace EF
open PySem PySem.Spec PyProof.Rows L2 BC TR
theorem nx_none_iff {row : List Int} {p : Int} : nx row p = none ↔ p ∉ row := by
  constructor
  · intro h m
    obtain ⟨y, hy⟩ := nx_mem m
    rw [h] at hy
    cases hy
  · intro h
    cases c : nx row p with
    | none => rfl
    | some y => exact absurd (mem_nx c).1 h
theorem nx_app_last {x z : Int} (ne : x ≠ z) : ∀ {f : List Int}, f.getLast? = some x → nx (f ++ [z]) x = some z
  | [], h => by cases h
  | [a], h => by
    have ha : a = x := by simpa using h
    subst ha
    show nx (a :: [z]) a = some z
    rw [nx_none (by show nx (z :: []) a = none; rw [nx_none rfl, if_neg (fun e => ne e.symm)]), if_pos rfl]
    rfl
  | a :: b :: r, h => by
    rw [List.getLast?_cons_cons] at h
    exact nx_some (nx_app_last ne h)
theorem nx_app_old {x z : Int} (ne : x ≠ z) : ∀ {f : List Int}, f.getLast? ≠ some x → nx (f ++ [z]) x = nx f x
  | [], _ => by
    show nx (z :: []) x = none
    rw [nx_none rfl, if_neg (fun e => ne e.symm)]
  | [a], h => by
    have ha : ¬ a = x := fun e => h (by rw [e]; rfl)
    show nx (a :: [z]) x = nx (a :: []) x
    rw [nx_none (p := x) (r := [z]) (by show nx (z :: []) x = none; rw [nx_none rfl, if_neg (fun e => ne e.symm)]), nx_none (r := []) rfl, if_neg ha, if_neg ha]
  | a :: b :: r, h => by
    rw [List.getLast?_cons_cons] at h
    have ih := nx_app_old ne (f := b :: r) h
    show nx (a :: (b :: r ++ [z])) x = nx (a :: b :: r) x
    cases c : nx (b :: r) x with
    | some y => rw [nx_some c, nx_some (ih.trans c)]
    | none =>
      rw [nx_none c, nx_none (ih.trans c)]
      rfl
theorem mem_used {row : List Int} (hp : Pg 40 row) {x : Int} : x ∈ usedOf (exs row) ↔ ∃ c, c ≠ x ∧ nx row c = some x := by
  unfold usedOf
  rw [List.mem_map]
  constructor
  · rintro ⟨⟨c, y⟩, h, e⟩
    rw [List.mem_filter] at h
    obtain ⟨h1, h2⟩ := h
    have e' : y = x := e
    subst e'
    refine ⟨c, fun q => ?_, (mem_exs hp).mp h1⟩
    rw [q] at h2
    simp at h2
  · rintro ⟨c, h1, h2⟩
    refine ⟨(c, x), List.mem_filter.mpr ⟨(mem_exs hp).mpr h2, ?_⟩, rfl⟩
    simp [h1]
theorem mem_leaves {row : List Int} (hp : Pg 40 row) {x : Int} : x ∈ leavesOf (exs row) ↔ x ∈ row ∧ ∀ c, c ≠ x → nx row c ≠ some x := by
  unfold leavesOf
  rw [List.mem_map]
  constructor
  · rintro ⟨⟨c, y⟩, h, e⟩
    rw [List.mem_filter] at h
    obtain ⟨h1, h2⟩ := h
    have e' : c = x := e
    subst e'
    refine ⟨(mem_nx ((mem_exs hp).mp h1)).1, fun d hd hn => ?_⟩
    have := (mem_used hp).mpr ⟨d, hd, hn⟩
    simp [this] at h2
  · rintro ⟨h1, h2⟩
    obtain ⟨y, hy⟩ := nx_mem h1
    refine ⟨(x, y), List.mem_filter.mpr ⟨(mem_exs hp).mpr hy, ?_⟩, rfl⟩
    have : x ∉ usedOf (exs row) := fun m => by
      obtain ⟨c, h3, h4⟩ := (mem_used hp).mp m
      exact h2 c h3 h4
    simp [this]
theorem leaves_nodup (row : List Int) : (leavesOf (exs row)).Nodup := by
  unfold leavesOf
  have := srt_nodup (exs_srt row)
  exact this.sublist ((List.filter_sublist (l := exs row)).map (·.1))
/-- for a page, how many other pages with this exit are not done -/
def cnt (row D : List Int) (y : Int) : Nat := ((exs row).filter fun q => decide (q.2 = y ∧ q.1 ≠ y ∧ q.1 ∉ D)).length
theorem cnt_pos {row D : List Int} (hp : Pg 40 row) {y : Int} : cnt row D y ≠ 0 ↔ ∃ c, c ≠ y ∧ nx row c = some y ∧ c ∉ D := by
  unfold cnt
  rw [← Nat.pos_iff_ne_zero, List.length_pos_iff_exists_mem]
  constructor
  · rintro ⟨⟨c, z⟩, h⟩
    rw [List.mem_filter, decide_eq_true_eq] at h
    obtain ⟨h1, h2, h3, h4⟩ := h
    have h2' : z = y := h2
    subst h2'
    exact ⟨c, h3, (mem_exs hp).mp h1, h4⟩
  · rintro ⟨c, h1, h2, h3⟩
    exact ⟨(c, y), List.mem_filter.mpr ⟨(mem_exs hp).mpr h2, decide_eq_true ⟨rfl, h1, h3⟩⟩⟩
theorem cnt_other {row D : List Int} (hp : Pg 40 row) {x y z : Int} (hx : nx row x = some y) (hz : z ≠ y) : cnt row (x :: D) z = cnt row D z := by
  unfold cnt
  congr 1
  refine List.filter_congr fun q hq => decide_eq_decide.mpr ?_
  obtain ⟨c, w⟩ := q
  have hc := (mem_exs hp).mp hq
  constructor
  · rintro ⟨h1, h2, h3⟩
    exact ⟨h1, h2, fun m => h3 (List.mem_cons_of_mem _ m)⟩
  · rintro ⟨h1, h2, h3⟩
    refine ⟨h1, h2, fun m => (List.mem_cons.mp m).elim (fun e => ?_) h3⟩
    have e' : c = x := e
    have h1' : w = z := h1
    rw [e', hx] at hc
    cases hc
    exact hz h1'.symm
theorem filt_one {α : Type} {p q : α → Bool} {a : α} : ∀ {l : List α}, l.Nodup → a ∈ l → p a = true → q a = false → (∀ b ∈ l, b ≠ a → p b = q b) → (l.filter p).length = (l.filter q).length + 1
  | [], _, h, _, _, _ => by cases h
  | b :: l, nd, h, h1, h2, h3 => by
    rw [List.nodup_cons] at nd
    by_cases e : b = a
    · subst e
      rw [List.filter_cons_of_pos h1, List.filter_cons_of_neg (by rw [h2]; exact Bool.false_ne_true), List.length_cons]
      congr 2
      exact List.filter_congr fun c hc => h3 c (List.mem_cons_of_mem _ hc) (fun e => nd.1 (by rw [← e]; exact hc))
    · have hm : a ∈ l := (List.mem_cons.mp h).resolve_left (fun e' => e e'.symm)
      have ih := filt_one nd.2 hm h1 h2 (fun c hc ne => h3 c (List.mem_cons_of_mem _ hc) ne)
      have hb := h3 b List.mem_cons_self e
      cases c : q b with
      | true =>
        rw [c] at hb
        rw [List.filter_cons_of_pos hb, List.filter_cons_of_pos c, List.length_cons, List.length_cons, ih]
      | false =>
        rw [c] at hb
        rw [List.filter_cons_of_neg (by rw [hb]; exact Bool.false_ne_true), List.filter_cons_of_neg (by rw [c]; exact Bool.false_ne_true), ih]
theorem cnt_exit {row D : List Int} (hp : Pg 40 row) {x y : Int} (hx : nx row x = some y) (ne : y ≠ x) (hD : x ∉ D) : cnt row D y = cnt row (x :: D) y + 1 := by
  unfold cnt
  refine filt_one (a := (x, y)) (srt_nd (exs_srt row)) ((mem_exs hp).mpr hx) (decide_eq_true ⟨rfl, ne.symm, hD⟩) (decide_eq_false fun h => h.2.2 List.mem_cons_self) fun q hq hne => decide_eq_decide.mpr ?_
  obtain ⟨c, w⟩ := q
  have hc := (mem_exs hp).mp hq
  have cx : c ≠ x := fun e => by
    subst e
    rw [hx] at hc
    cases hc
    exact hne rfl
  show (w = y ∧ c ≠ y ∧ c ∉ D) ↔ (w = y ∧ c ≠ y ∧ c ∉ x :: D)
  rw [List.mem_cons, not_or]
  exact ⟨fun ⟨a, b, c'⟩ => ⟨a, b, cx, c'⟩, fun ⟨a, b, _, c'⟩ => ⟨a, b, c'⟩⟩
/-- a list in the making: the pages D are left for the last time, the leaves T are taken -/
structure LW (row D found T : List Int) (b : Nat) : Prop where
  dm : ∀ x ∈ D, x ∈ row ∧ x ≠ lst row
  dnd : D.Nodup
  cl : ∀ x ∈ D, ∀ c, nx row c = some x → c ∈ D
  nxD : ∀ x ∈ D, nx found x = nx row x
  fm : ∀ x ∈ found, x ∈ row
  ln : found.length = T.length + D.length + b
  st : ∀ x ∈ row, x ∉ D → x ≠ lst row → found.getLast? ≠ some x → (∃ c, c ≠ x ∧ nx row c = some x ∧ c ∉ D) ∨ (x ∈ leavesOf (exs row) ∧ x ∉ T)
  la : ∀ x, found.getLast? = some x → x ∉ D
  fl : found.filter (fun x => decide (x ∈ leavesOf (exs row))) = T
  hd : ∀ x, found.head? = some x → x = row.headD 0
theorem LW.step {row D found T : List Int} {b : Nat} (hp : Pg 40 row) (h : LW row D found T b) {x y : Int} (hx : found.getLast? = some x) (h0 : cnt row D x = 0) (hy : nx row x = some y) (ne : y ≠ x) : LW row (x :: D) (found ++ [y]) T b := by
  have xD := h.la x hx
  have yD : y ∉ D := fun m => xD (h.cl y m x hy)
  have hxr := (mem_nx hy).1
  have hyr := (mem_nx hy).2
  have xl : x ≠ lst row := by
    rcases nx_ix hy with ⟨e, _⟩ | ⟨_, q, _⟩
    · exact absurd e ne
    · exact q
  have lastY : (found ++ [y]).getLast? = some y := List.getLast?_concat
  constructor
  · intro z hz
    rcases List.mem_cons.mp hz with rfl | hz
    · exact ⟨hxr, xl⟩
    · exact h.dm z hz
  · exact List.nodup_cons.mpr ⟨xD, h.dnd⟩
  · intro z hz c hc
    rcases List.mem_cons.mp hz with rfl | hz
    · by_cases e : c = z
      · rw [e]; exact List.mem_cons_self
      · refine List.mem_cons_of_mem _ ?_
        by_cases m : c ∈ D
        · exact m
        · exact absurd h0 ((cnt_pos hp).mpr ⟨c, e, hc, m⟩)
    · exact List.mem_cons_of_mem _ (h.cl z hz c hc)
  · intro z hz
    rcases List.mem_cons.mp hz with rfl | hz
    · rw [nx_app_last ne.symm hx, hy]
    · rw [nx_app_old (fun e => yD (by rw [← e]; exact hz)) (fun e => h.la z e hz)]
      exact h.nxD z hz
  · intro z hz
    rcases List.mem_append.mp hz with hz | hz
    · exact h.fm z hz
    · rw [List.mem_singleton.mp hz]; exact hyr
  · rw [List.length_append, h.ln, List.length_singleton, List.length_cons]; omega
  · intro z hz hzD hzl hzy
    have zx : z ≠ x := fun e => hzD (by rw [e]; exact List.mem_cons_self)
    have zD : z ∉ D := fun m => hzD (List.mem_cons_of_mem _ m)
    have zy : z ≠ y := fun e => hzy (by rw [lastY, e])
    rcases h.st z hz zD hzl (fun e => zx (Option.some.inj (hx.symm.trans e)).symm) with ⟨c, h1, h2, h3⟩ | q
    · refine .inl ⟨c, h1, h2, fun m => (List.mem_cons.mp m).elim (fun e => ?_) h3⟩
      subst e
      rw [hy] at h2
      exact zy (Option.some.inj h2).symm
    · exact .inr q
  · intro z hz hm
    rw [lastY] at hz
    cases hz
    exact (List.mem_cons.mp hm).elim ne yD
  · rw [List.filter_append, h.fl]
    have : y ∉ leavesOf (exs row) := fun m => ((mem_leaves hp).mp m).2 x ne.symm hy
    have e : [y].filter (fun x => decide (x ∈ leavesOf (exs row))) = [] := by simp [this]
    rw [e, List.append_nil]
  · intro z hz
    cases found with
    | nil => cases hx
    | cons a r => exact h.hd z hz
theorem LW.leaf {row D found T : List Int} {b : Nat} (hp : Pg 40 row) (h : LW row D found T b) (hs : ∀ x, found.getLast? = some x → cnt row D x ≠ 0 ∨ x = lst row) {z : Int} (hz : z ∈ leavesOf (exs row)) (hT : z ∉ T) (h0 : found = [] → z = row.headD 0) : LW row D (found ++ [z]) (T ++ [z]) b := by
  have hzr := ((mem_leaves hp).mp hz).1
  have lastZ : (found ++ [z]).getLast? = some z := List.getLast?_concat
  have zf : z ∉ found := fun m => hT (by rw [← h.fl]; exact List.mem_filter.mpr ⟨m, decide_eq_true hz⟩)
  have zD : z ∉ D := fun m => by
    have e := h.nxD z m
    obtain ⟨y, hy⟩ := nx_mem hzr
    rw [hy] at e
    exact zf (mem_nx e).1
  constructor
  · exact h.dm
  · exact h.dnd
  · exact h.cl
  · intro x hx
    rw [nx_app_old (fun e => zD (by rw [← e]; exact hx)) (fun e => h.la x e hx)]
    exact h.nxD x hx
  · intro x hx
    rcases List.mem_append.mp hx with hx | hx
    · exact h.fm x hx
    · rw [List.mem_singleton.mp hx]; exact hzr
  · rw [List.length_append, List.length_append, h.ln, List.length_singleton]; omega
  · intro x hx xD xl xz
    have ne : x ≠ z := fun e => xz (by rw [lastZ, e])
    by_cases c : found.getLast? = some x
    · rcases hs x c with q | q
      · exact .inl ((cnt_pos hp).mp q)
      · exact absurd q xl
    · rcases h.st x hx xD xl c with q | ⟨q1, q2⟩
      · exact .inl q
      · refine .inr ⟨q1, fun m => (List.mem_append.mp m).elim q2 fun m => ne (List.mem_singleton.mp m)⟩
  · intro x hx
    rw [lastZ] at hx
    cases hx
    exact zD
  · have e : [z].filter (fun x => decide (x ∈ leavesOf (exs row))) = [z] := by simp [hz]
    rw [List.filter_append, h.fl, e]
  · intro x hx
    cases found with
    | nil => cases hx; exact h0 rfl
    | cons a r => exact h.hd x hx
/-- nothing is left at the end -/
theorem LW.all {row D found T : List Int} {b : Nat} (hp : Pg 40 row) (h : LW row D found T b) (hs : ∀ x, found.getLast? = some x → cnt row D x ≠ 0 ∨ x = lst row) (hT : ∀ x ∈ leavesOf (exs row), x ∈ T) : ∀ x ∈ row, x ≠ lst row → x ∈ D := by
  suffices hh : ∀ n x, ix row x < n → x ∈ row → x ≠ lst row → x ∈ D from fun x hx hl => hh _ x (Nat.lt_succ_self _) hx hl
  intro n
  induction n with
  | zero => intro x hx; omega
  | succ n ih =>
    intro x hx hr hl
    by_cases m : x ∈ D
    · exact m
    have key : (∃ c, c ≠ x ∧ nx row c = some x ∧ c ∉ D) ∨ (x ∈ leavesOf (exs row) ∧ x ∉ T) := by
      by_cases c : found.getLast? = some x
      · rcases hs x c with q | q
        · exact .inl ((cnt_pos hp).mp q)
        · exact absurd q hl
      · exact h.st x hr m hl c
    rcases key with ⟨c, h1, h2, h3⟩ | ⟨h1, h2⟩
    · rcases nx_ix h2 with ⟨e, _⟩ | ⟨_, q, lt⟩
      · exact absurd e.symm h1
      · exact absurd (ih c (by omega) (mem_nx h2).1 q) h3
    · exact absurd (hT x h1) h2
theorem exs_congr {row l : List Int} (h : ∀ x, nx l x = nx row x) : exs l = exs row := by
  unfold exs
  congr 1
  funext p
  rw [h]
theorem getLast?_mem' {l : List Int} {x : Int} (h : l.getLast? = some x) : x ∈ l := List.mem_of_getLast? h
theorem LW.fin {row D found T : List Int} {b : Nat} (hp : Pg 40 row) (hne : row ≠ []) (h : LW row D found T b) (hs : ∀ x, found.getLast? = some x → cnt row D x ≠ 0 ∨ x = lst row) (hT : ∀ x ∈ leavesOf (exs row), x ∈ T) (h0 : found ≠ []) :
    exs found = exs row ∧ found.headD 0 = row.headD 0 ∧ found.length + 1 = T.length + (exs row).length + b ∧ (∀ x ∈ found, x ∈ row) := by
  have hall := h.all hp hs hT
  obtain ⟨z, hz⟩ : ∃ z, found.getLast? = some z := ⟨_, List.getLast?_eq_some_getLast h0⟩
  have hzr := h.fm z (getLast?_mem' hz)
  have zl : z = lst row := by
    by_cases e : z = lst row
    · exact e
    · exact absurd (hall z hzr e) (h.la z hz)
  subst zl
  have lf : lst found = lst row := by unfold lst at hz ⊢; rw [hz]; rfl
  refine ⟨exs_congr fun x => ?_, ?_, ?_, h.fm⟩
  · by_cases m : x ∈ row
    · by_cases e : x = lst row
      · subst e
        rw [nx_lst hne, ← lf, nx_lst h0]
      · exact h.nxD x (hall x m e)
    · rw [nx_none_iff.mpr m, nx_none_iff.mpr fun q => m (h.fm x q)]
  · cases found with
    | nil => exact absurd rfl h0
    | cons a r => exact h.hd a rfl
  · have e : (lst row :: D).length = (exs row).length := by
      have p : (lst row :: D).Perm ((exs row).map (·.1)) := by
        refine (List.perm_ext_iff_of_nodup (List.nodup_cons.mpr ⟨fun m => (h.dm _ m).2 rfl, h.dnd⟩) (srt_nodup (exs_srt row))).mpr fun x => ?_
        rw [List.mem_cons]
        have hk : x ∈ (exs row).map (·.1) ↔ x ∈ row := by
          rw [List.mem_map]
          constructor
          · rintro ⟨⟨c, y⟩, h1, e⟩
            cases e
            exact (mem_nx ((mem_exs hp).mp h1)).1
          · intro m
            obtain ⟨y, hy⟩ := nx_mem m
            exact ⟨(x, y), (mem_exs hp).mpr hy, rfl⟩
        rw [hk]
        constructor
        · rintro (rfl | m)
          · exact lst_mem hne
          · exact (h.dm x m).1
        · intro m
          by_cases e : x = lst row
          · exact .inl e
          · exact .inr (hall x m e)
      rw [p.length_eq, List.length_map]
    rw [List.length_cons] at e
    rw [h.ln]
    omega
/-- the leaves but for the first page -/
def frL (row : List Int) : List Int := (leavesOf (exs row)).filter fun x => decide (x ≠ row.headD 0)
def lfB (row : List Int) : Bool := decide (row.headD 0 ∈ leavesOf (exs row))
/-- the number of visits of the shortest lists -/
def few (row : List Int) : Nat := if row = [] then 0 else (exs row).length + (leavesOf (exs row)).length - (if lfB row = true then 1 else 0)
theorem LW.init {row : List Int} (hp : Pg 40 row) (hne : row ≠ []) : LW row [] (if lfB row = true then [] else [row.headD 0]) [] (if lfB row = true then 0 else 1) := by
  have hh : row.headD 0 ∈ row := by
    cases row with
    | nil => exact absurd rfl hne
    | cons a r => exact List.mem_cons_self
  constructor
  · intro x hx; cases hx
  · exact List.nodup_nil
  · intro x hx; cases hx
  · intro x hx; cases hx
  · intro x hx
    split at hx
    · cases hx
    · rw [List.mem_singleton.mp hx]; exact hh
  · split <;> rfl
  · intro x hx _ hl hla
    by_cases m : x ∈ leavesOf (exs row)
    · exact .inr ⟨m, by simp⟩
    · refine .inl ?_
      by_cases q : ∃ c, c ≠ x ∧ nx row c = some x
      · obtain ⟨c, h1, h2⟩ := q
        exact ⟨c, h1, h2, by simp⟩
      · exact absurd ((mem_leaves hp).mpr ⟨hx, fun c h1 h2 => q ⟨c, h1, h2⟩⟩) m
  · intro x _ hx; cases hx
  · split
    · rfl
    · next c =>
      unfold lfB at c
      rw [List.filter_cons_of_neg (by exact c), List.filter_nil]
  · intro x hx
    split at hx
    · cases hx
    · cases hx; rfl
/-- the leaves in the order in which they are taken -/
def todo (row order : List Int) : List Int := if lfB row = true then row.headD 0 :: order else order
theorem todo_perm {row order : List Int} (hne : row ≠ []) (h : order.Perm (frL row)) : (todo row order).Perm (leavesOf (exs row)) := by
  unfold todo
  cases c : lfB row with
  | true =>
    rw [if_pos rfl]
    have m : row.headD 0 ∈ leavesOf (exs row) := by unfold lfB at c; exact of_decide_eq_true c
    have nd := leaves_nodup row
    refine (List.Perm.cons _ h).trans ((List.perm_ext_iff_of_nodup (List.nodup_cons.mpr ⟨fun q => ?_, nd.sublist List.filter_sublist⟩) nd).mpr fun x => ?_)
    · unfold frL at q
      rw [List.mem_filter, decide_eq_true_eq] at q
      exact q.2 rfl
    · rw [List.mem_cons, List.mem_filter, decide_eq_true_eq]
      constructor
      · rintro (rfl | q)
        · exact m
        · exact q.1
      · intro q
        by_cases e : x = row.headD 0
        · exact .inl e
        · exact .inr ⟨q, e⟩
  | false =>
    rw [if_neg (by decide)]
    unfold frL at h
    rw [List.filter_eq_self.mpr fun x hx => ?_] at h
    · exact h
    · refine decide_eq_true fun e => ?_
      unfold lfB at c
      exact of_decide_eq_false c (by rw [← e]; exact hx)
/-- a shortest list with the effect of these visits -/
structure Short (row l : List Int) : Prop where
  pg : Pg 40 l
  ex : exs l = exs row
  hd : l.headD 0 = row.headD 0
  nil : l = [] ↔ row = []
  len : l.length = few row
  nd : (l.filter fun x => decide (x ∈ leavesOf (exs row))).Nodup
theorem Short.nil_nil : Short [] [] := ⟨pg_nil _, rfl, rfl, Iff.rfl, rfl, by exact List.nodup_nil⟩
theorem LW.short {row D found order : List Int} (hp : Pg 40 row) (hne : row ≠ []) (ho : order.Perm (frL row)) (h : LW row D found (todo row order) (if lfB row = true then 0 else 1)) (hs : ∀ x, found.getLast? = some x → cnt row D x ≠ 0 ∨ x = lst row) : Short row found := by
  have tp := todo_perm hne ho
  have h0 : found ≠ [] := fun e => by
    have l := h.ln
    rw [e] at l
    cases c : lfB row with
    | true =>
      unfold todo at l
      rw [c, if_pos rfl] at l
      simp at l
      omega
    | false =>
      rw [c] at l
      simp at l
  obtain ⟨h1, h2, h3, h4⟩ := h.fin hp hne hs (fun x hx => tp.mem_iff.mpr hx) h0
  refine ⟨fun x hx => hp x (h4 x hx), h1, h2, ⟨fun e => absurd e h0, fun e => absurd e hne⟩, ?_, ?_⟩
  · unfold few
    rw [if_neg hne]
    rw [tp.length_eq] at h3
    have : (exs row).length ≠ 0 := fun e => by
      have := (mem_exs hp).mpr (nx_lst hne)
      rw [List.length_eq_zero_iff.mp e] at this
      cases this
    cases c : lfB row with
    | true => rw [c, if_pos rfl] at h3; rw [if_pos rfl]; omega
    | false => rw [c, if_neg (by decide)] at h3; rw [if_neg (by decide)]; omega
  · rw [h.fl]
    exact tp.nodup_iff.mpr (leaves_nodup row)
theorem few_congr {row l : List Int} (e : exs l = exs row) (hd : l.headD 0 = row.headD 0) (n : l = [] ↔ row = []) : few l = few row := by
  unfold few lfB
  rw [e, hd]
  by_cases c : row = []
  · rw [if_pos c, if_pos (n.mpr c)]
  · rw [if_neg c, if_neg (fun q => c (n.mp q))]
theorem Short.few {row l : List Int} (h : Short row l) : EF.few l = l.length := by rw [h.len, few_congr h.ex h.hd h.nil]
theorem leaves_le (row : List Int) : (leavesOf (exs row)).length ≤ (exs row).length := by
  unfold leavesOf
  rw [List.length_map]
  exact List.length_filter_le _ _
theorem few_le (row : List Int) : few row ≤ 2 * (exs row).length := by
  unfold few
  have := leaves_le row
  split
  · omega
  · split <;> omega
theorem few_80 (row : List Int) : few row ≤ 80 := by
  have := few_le row
  have := exs_len40 row
  omega
theorem dd_le : ∀ row : List Int, (dd row).length ≤ row.length
  | [] => Nat.le_refl _
  | a :: r => by
    unfold dd
    have := dd_le r
    split
    · rw [List.length_cons]; omega
    · rw [List.length_cons, List.length_cons]; omega
theorem sub_len {l m : List Int} (nd : l.Nodup) (h : ∀ x ∈ l, x ∈ m) : l.length ≤ m.length := by
  induction l generalizing m with
  | nil => exact Nat.zero_le _
  | cons a l ih =>
    rw [List.nodup_cons] at nd
    have ha := h a List.mem_cons_self
    have := ih nd.2 (m := m.erase a) fun x hx => (List.mem_erase_of_ne (fun e => nd.1 (by rw [← e]; exact hx))).mpr (h x (List.mem_cons_of_mem _ hx))
    rw [List.length_erase_of_mem ha] at this
    have : 0 < m.length := List.length_pos_of_mem ha
    rw [List.length_cons]
    omega
/-- a list twice and one page thrice is no shortest one -/
theorem few_twice {l : List Int} {a : Int} (hp : Pg 40 (l ++ l ++ [a, a, a])) (hl : Pg 40 l) : few (l ++ l ++ [a, a, a]) < (l ++ l ++ [a, a, a]).length := by
  have h1 := few_le (l ++ l ++ [a, a, a])
  rw [exs_len hp] at h1
  have h2 : (dd (l ++ l ++ [a, a, a])).length ≤ (a :: dd l).length := by
    refine sub_len (dd_nodup _) fun x hx => ?_
    rw [dd_mem] at hx
    rw [List.mem_cons, dd_mem]
    simp only [List.mem_append, List.mem_cons, List.mem_nil_iff, or_false] at hx
    rcases hx with (h | h) | h | h | h
    · exact .inr h
    · exact .inr h
    · exact .inl h
    · exact .inl h
    · exact .inl h
  have h3 := dd_le l
  rw [List.length_cons] at h2
  simp only [List.length_append, List.length_cons, List.length_nil]
  omega
end EF

set_option Elab.async false
set_option linter.all false
set_option maxRecDepth 100000
set_option maxHeartbeats 4000000
/-! visits are no fewer than the fewest with their effect -/
namespace EF
open PySem PySem.Spec PyProof.Rows L2 BC TR
theorem mem_frl {row : List Int} {x : Int} : x ∈ frL row ↔ x ∈ leavesOf (exs row) ∧ x ≠ row.headD 0 := by
  unfold frL
  rw [List.mem_filter, decide_eq_true_eq]
theorem frl_nodup (row : List Int) : (frL row).Nodup := (leaves_nodup row).sublist List.filter_sublist
theorem nx_again {a : Int} {r : List Int} (h : a ∈ r) (c : Int) : nx (a :: r) c = nx r c := by
  cases e : nx r c with
  | some y => exact nx_some e
  | none =>
    rw [nx_none e, if_neg]
    intro q
    subst q
    exact nx_none_iff.mp e h
theorem frl_cons {a b : Int} {r : List Int} (hp : Pg 40 (a :: b :: r)) : (frL (a :: b :: r)).length ≤ (frL (b :: r)).length + (if a ∈ b :: r then 1 else 0) := by
  have hp' : Pg 40 (b :: r) := fun x hx => hp x (List.mem_cons_of_mem _ hx)
  by_cases m : a ∈ b :: r
  · rw [if_pos m]
    have e : exs (a :: b :: r) = exs (b :: r) := exs_congr fun x => nx_again m x
    have := sub_len (m := b :: frL (b :: r)) (frl_nodup (a :: b :: r)) fun x hx => by
      obtain ⟨h1, h2⟩ := mem_frl.mp hx
      rw [e] at h1
      by_cases q : x = b
      · rw [q]; exact List.mem_cons_self
      · exact List.mem_cons_of_mem _ (mem_frl.mpr ⟨h1, q⟩)
    rw [List.length_cons] at this
    exact this
  · rw [if_neg m]
    refine sub_len (frl_nodup (a :: b :: r)) fun x hx => ?_
    obtain ⟨h1, h2⟩ := mem_frl.mp hx
    have xa : x ≠ a := h2
    obtain ⟨h3, h4⟩ := (mem_leaves hp).mp h1
    have xr : x ∈ b :: r := (List.mem_cons.mp h3).resolve_left xa
    refine mem_frl.mpr ⟨(mem_leaves hp').mpr ⟨xr, fun c hc hn => h4 c hc (nx_some hn)⟩, fun q => ?_⟩
    have q' : x = b := q
    subst q'
    refine h4 a xa.symm ?_
    rw [nx_none (nx_none_iff.mpr m), if_pos rfl]
    rfl
theorem dd_cons (a : Int) (r : List Int) : (dd (a :: r)).length + (if a ∈ r then 1 else 0) = (dd r).length + 1 := by
  show (if a ∈ r then dd r else a :: dd r).length + _ = _
  by_cases m : a ∈ r
  · rw [if_pos m, if_pos m]
  · rw [if_neg m, if_neg m, List.length_cons]
theorem frl_dd : ∀ {row : List Int}, Pg 40 row → (dd row).length + (frL row).length ≤ row.length
  | [], _ => by
    have : (frL []).length = 0 := by
      rw [List.length_eq_zero_iff, List.eq_nil_iff_forall_not_mem]
      intro x hx
      have := ((mem_leaves (row := []) (pg_nil _)).mp (mem_frl.mp hx).1).1
      cases this
    show 0 + _ ≤ 0
    omega
  | [a], hp => by
    have : (frL [a]).length = 0 := by
      rw [List.length_eq_zero_iff, List.eq_nil_iff_forall_not_mem]
      intro x hx
      obtain ⟨h1, h2⟩ := mem_frl.mp hx
      have := ((mem_leaves hp).mp h1).1
      exact h2 (List.mem_singleton.mp this)
    show 1 + _ ≤ 1
    omega
  | a :: b :: r, hp => by
    have ih := frl_dd (row := b :: r) fun x hx => hp x (List.mem_cons_of_mem _ hx)
    have h1 := frl_cons hp
    have h2 := dd_cons a (b :: r)
    rw [List.length_cons]
    omega
theorem few_len {row : List Int} (hp : Pg 40 row) : few row ≤ row.length := by
  unfold few
  by_cases h : row = []
  · rw [if_pos h]; omega
  · rw [if_neg h]
    have h1 := (todo_perm h (List.Perm.refl (frL row))).length_eq
    have h2 := frl_dd hp
    have h3 := exs_len hp
    unfold todo at h1
    cases c : lfB row with
    | true =>
      rw [c, if_pos rfl, List.length_cons] at h1
      rw [if_pos rfl]
      omega
    | false =>
      rw [c, if_neg (by decide)] at h1
      rw [if_neg (by decide)]
      omega
end EF

set_option Elab.async false
set_option linter.all false
set_option maxRecDepth 100000
set_option maxHeartbeats 4000000
/-! trails from which two lists of visits part; the trail after visits by the effect -/
namespace EF
open PySem PySem.Spec PyProof.Rows L2 BC TR
theorem st_vis (a : Int) : ∀ P : List Int, st P a = vis P a
  | [] => by
    unfold vis
    rw [if_neg List.not_mem_nil]
    rfl
  | p :: P => by
    show (if p = a then [a] else p :: st P a) = _
    by_cases e : p = a
    · subst e
      rw [if_pos rfl]
      unfold vis
      rw [if_pos List.mem_cons_self, List.idxOf_cons_self]
      rfl
    · rw [if_neg e, st_vis a P]
      have hb : (p == a) = false := beq_eq_false_iff_ne.mpr e
      unfold vis
      by_cases m : a ∈ P
      · rw [if_pos m, if_pos (List.mem_cons_of_mem _ m), List.idxOf_cons, hb]
        rfl
      · rw [if_neg m, if_neg fun h => (List.mem_cons.mp h).elim (fun q => e q.symm) m]
        rfl
theorem play_vis : ∀ (row P : List Int), play P row = row.foldl vis P
  | [], _ => rfl
  | a :: r, P => by
    show play (st P a) r = r.foldl vis (vis P a)
    rw [st_vis, play_vis r]
theorem ef_vis (row P : List Int) : ef row P = row.foldl vis P := by rw [← play_ef, play_vis]
theorem ch_hd' {row : List Int} {p : Int} (h : p ∈ row) : ∃ t, ch row p = p :: t := by
  obtain ⟨y, hy⟩ := nx_mem h
  exact ch_hd hy
theorem ef_nil_hd (a : Int) (r : List Int) : ∃ t, ef (a :: r) [] = a :: t := ch_hd' List.mem_cons_self
theorem ef_one_hd (row : List Int) (b : Int) : ∃ t, ef row [b] = b :: t := by
  show ∃ t, (if b ∈ row then ch row b else b :: ef row []) = b :: t
  by_cases m : b ∈ row
  · rw [if_pos m]; exact ch_hd' m
  · rw [if_neg m]; exact ⟨_, rfl⟩
theorem ef_in {row : List Int} {p : Int} (h : p ∈ row) (P : List Int) : ef row (p :: P) = ch row p := by
  show (if p ∈ row then _ else _) = _
  rw [if_pos h]
theorem ef_out {row : List Int} {p : Int} (h : p ∉ row) (P : List Int) : ef row (p :: P) = p :: ef row P := by
  show (if p ∈ row then _ else _) = _
  rw [if_neg h]
theorem part_in {r1 r2 : List Int} {a p : Int} {t : List Int} (ha : ef r2 [] = a :: t) (h1 : ef r1 [p] = ef r2 [p]) (h2 : ∀ b : Int, 0 ≤ b → b < 40 → p ≠ b → ef r1 [p, b] = ef r2 [p, b]) (hp : p ∈ r1) : p ∈ r2 := by
  by_cases m : p ∈ r2
  · exact m
  exfalso
  obtain ⟨b, b0, b1, bp, ba⟩ : ∃ b : Int, 0 ≤ b ∧ b < 40 ∧ p ≠ b ∧ a ≠ b := by
    by_cases c0 : p ≠ 0 ∧ a ≠ 0
    · exact ⟨0, by omega, by omega, c0.1, c0.2⟩
    · by_cases c1 : p ≠ 1 ∧ a ≠ 1
      · exact ⟨1, by omega, by omega, c1.1, c1.2⟩
      · exact ⟨2, by omega, by omega, by omega, by omega⟩
  have q := h2 b b0 b1 bp
  rw [ef_in hp, ef_out m] at h1 q
  obtain ⟨u, hu⟩ := ef_one_hd r2 b
  rw [ha] at h1
  rw [hu, h1] at q
  exact ba (List.cons.inj (List.cons.inj q).2).1
/-- no trail parts them: they have one effect -/
theorem parts {r1 r2 : List Int} (p1 : Pg 40 r1) (p2 : Pg 40 r2) (h0 : ef r1 [] = ef r2 []) (h1 : ∀ p : Int, 0 ≤ p → p < 40 → ef r1 [p] = ef r2 [p]) (h2 : ∀ p b : Int, 0 ≤ p → p < 40 → 0 ≤ b → b < 40 → p ≠ b → ef r1 [p, b] = ef r2 [p, b]) : r1.head? = r2.head? ∧ ∀ x, nx r1 x = nx r2 x := by
  cases r1 with
  | nil =>
    cases r2 with
    | nil => exact ⟨rfl, fun _ => rfl⟩
    | cons a s =>
      obtain ⟨t, ht⟩ := ef_nil_hd a s
      rw [ht] at h0
      cases h0
  | cons a s =>
    cases r2 with
    | nil =>
      obtain ⟨t, ht⟩ := ef_nil_hd a s
      rw [ht] at h0
      cases h0
    | cons a' s' =>
      obtain ⟨t, ht⟩ := ef_nil_hd a s
      obtain ⟨t', ht'⟩ := ef_nil_hd a' s'
      have e : a = a' := by
        rw [ht, ht'] at h0
        exact (List.cons.inj h0).1
      subst e
      refine ⟨rfl, fun x => ?_⟩
      generalize a :: s = r1 at *
      generalize a :: s' = r2 at *
      have i12 : x ∈ r1 → x ∈ r2 := fun m => part_in ht' (h1 x (p1 x m).1 (p1 x m).2) (fun b b0 b1 n => h2 x b (p1 x m).1 (p1 x m).2 b0 b1 n) m
      have i21 : x ∈ r2 → x ∈ r1 := fun m => part_in ht (h1 x (p2 x m).1 (p2 x m).2).symm (fun b b0 b1 n => (h2 x b (p2 x m).1 (p2 x m).2 b0 b1 n).symm) m
      have none_of : ∀ {r : List Int}, x ∉ r → nx r x = none := fun {r} h => by
        cases c : nx r x with
        | none => rfl
        | some y => exact absurd (mem_nx c).1 h
      by_cases m : x ∈ r1
      · have m2 := i12 m
        have q := h1 x (p1 x m).1 (p1 x m).2
        rw [ef_in m, ef_in m2] at q
        obtain ⟨y, hy⟩ := nx_mem m
        obtain ⟨z, hz⟩ := nx_mem m2
        obtain ⟨y1, y2⟩ := ch_next hy
        obtain ⟨z1, z2⟩ := ch_next hz
        obtain ⟨ty, hty⟩ := ch_hd' (mem_nx hy).2
        obtain ⟨tz, htz⟩ := ch_hd' (mem_nx hz).2
        rw [hy, hz]
        congr 1
        by_cases cy : y = x
        · by_cases cz : z = x
          · rw [cy, cz]
          · rw [y1 cy, z2 cz, htz] at q
            simp at q
        · by_cases cz : z = x
          · rw [y2 cy, z1 cz, hty] at q
            simp at q
          · rw [y2 cy, z2 cz, hty, htz] at q
            exact (List.cons.inj (List.cons.inj q).2).1
      · rw [none_of m, none_of fun h => m (i21 h)]
end EF

set_option Elab.async false
set_option linter.all false
set_option maxRecDepth 100000
set_option maxHeartbeats 4000000
/-! [.. for x in xs for y in ys]: the reading of the library's two-for rule -/
namespace BC
open PySem PySem.Spec PyProof.Rows L2 Evl
def Lc2I (J1 : It) (g1 : TG) (tt1 : TT) (te : TE) (σ2 : L2.St) (vs1 : List Nat) (D : Addr) (Nx : Hp → Prop) (H4 : Hp) : Prop := ∃ W1 : Nat → Nat → Hp → Prop, (∃ m, W1 0 m H4) ∧ ∀ j k H, W1 j k H →
  (J1.stop j H ∧ Nx H) ∨ (J1.go j H ∧ ∃ Nx1 : Hp → Prop, (∀ H', Nx1 H' → ∃ k', k' < k ∧ W1 (j + 1) k' H') ∧ ∀ x H', J1.yld j H x H' → g1 x (wipe σ2 vs1) H' fun σ3 H5 => wipe σ3 vs1 = wipe σ2 vs1 ∧ tt1 σ3 H5 fun b H6 =>
    if b = true then te σ3 H6 fun y H7 => ∃ acc, H7 D = some (.lst acc) ∧ acc.length < sizeLine ∧ Nx1 (upd H7 D (.lst (acc ++ [y]))) else Nx1 H6)
def Lc2G (J : It) (g : TG) (tt : TT) (wi1 : TI) (g1 : TG) (tt1 : TT) (te : TE) (vs vs1 : List Nat) (σ : L2.St) (D : Addr) (H1 : Hp) (Q : VK) : Prop := ∃ W : Nat → Nat → Hp → Prop, (∃ m, W 0 m (upd H1 D (.lst []))) ∧ ∀ i m H, W i m H →
  (J.stop i H ∧ Q (.ref D) H) ∨ (J.go i H ∧ ∃ Nx : Hp → Prop, (∀ H', Nx H' → ∃ m', m' < m ∧ W (i + 1) m' H') ∧ ∀ x H', J.yld i H x H' → g x (wipe σ vs) H' fun σ2 H2 => wipe σ2 vs = wipe σ vs ∧ tt σ2 H2 fun b H3 =>
    if b = true then wi1 σ2 H3 fun J1 H4 => Lc2I J1 g1 tt1 te σ2 vs1 D Nx H4 else Nx H3)
theorem x_lc2 {wi wi1 : TI} {g g1 : TG} {tt tt1 : TT} {te : TE} {vs vs1 : List Nat} {σ : L2.St} {H : Hp} {Q : VK} : tLc2 wi g tt wi1 g1 tt1 te vs vs1 σ H Q = wi σ H (fun J H1 => ∀ D, H1 D = none → Lc2G J g tt wi1 g1 tt1 te vs vs1 σ D H1 Q) := rfl
section
variable {K : PySem.W.Frag} {σ : L2.St} {H1 : Hp} {g g1 : TG} {tt tt1 : TT} {te : TE} {wi1 : TI} {vs vs1 : List Nat} {D : Addr} {Q : VK} {a : Addr} {xs : List V}
theorem lc2_list (Pv : Nat → Hp → Prop) (h0 : Pv 0 (upd H1 D (.lst []))) (hl : ∀ i H, i ≤ xs.length → Pv i H → SqL K H a xs)
    (hs : ∀ i v H, xs[i]? = some v → Pv i H → g v (wipe σ vs) H fun σ2 H2 => wipe σ2 vs = wipe σ vs ∧ tt σ2 H2 fun b H3 =>
      if b = true then wi1 σ2 H3 fun J1 H4 => Lc2I J1 g1 tt1 te σ2 vs1 D (Pv (i + 1)) H4 else Pv (i + 1) H3) (hd : ∀ H, Pv xs.length H → Q (.ref D) H) : Lc2G (Itl K a) g tt wi1 g1 tt1 te vs vs1 σ D H1 Q := by
  refine ⟨fun i m H => m = xs.length - i ∧ i ≤ xs.length ∧ Pv i H, ⟨xs.length, by simp, Nat.zero_le _, h0⟩, ?_⟩
  rintro i m H ⟨rfl, hi, p⟩
  have q := hl i H hi p
  by_cases hlt : i < xs.length
  · refine .inr ⟨⟨xs, xs[i], q, List.getElem?_eq_getElem hlt⟩, Pv (i + 1), fun H' p' => ⟨xs.length - (i + 1), by omega, rfl, hlt, p'⟩, fun x H' y => ?_⟩
    obtain ⟨rfl, f⟩ := y
    exact hs i x _ (f xs q) p
  · have e : i = xs.length := by omega
    subst e
    exact .inl ⟨⟨xs, q, Nat.le_refl _⟩, hd H p⟩
theorem lc2i_list {σ2 : L2.St} {Nx : Hp → Prop} {H4 : Hp} (Pv : Nat → Hp → Prop) (h0 : Pv 0 H4) (hl : ∀ i H, i ≤ xs.length → Pv i H → SqL K H a xs)
    (hs : ∀ i v H, xs[i]? = some v → Pv i H → g1 v (wipe σ2 vs1) H fun σ3 H5 => wipe σ3 vs1 = wipe σ2 vs1 ∧ tt1 σ3 H5 fun b H6 =>
      if b = true then te σ3 H6 fun y H7 => ∃ acc, H7 D = some (.lst acc) ∧ acc.length < sizeLine ∧ Pv (i + 1) (upd H7 D (.lst (acc ++ [y]))) else Pv (i + 1) H6) (hd : ∀ H, Pv xs.length H → Nx H) : Lc2I (Itl K a) g1 tt1 te σ2 vs1 D Nx H4 := by
  refine ⟨fun i m H => m = xs.length - i ∧ i ≤ xs.length ∧ Pv i H, ⟨xs.length, by simp, Nat.zero_le _, h0⟩, ?_⟩
  rintro i m H ⟨rfl, hi, p⟩
  have q := hl i H hi p
  by_cases hlt : i < xs.length
  · refine .inr ⟨⟨xs, xs[i], q, List.getElem?_eq_getElem hlt⟩, Pv (i + 1), fun H' p' => ⟨xs.length - (i + 1), by omega, rfl, hlt, p'⟩, fun x H' y => ?_⟩
    obtain ⟨rfl, f⟩ := y
    exact hs i x _ (f xs q) p
  · have e : i = xs.length := by omega
    subst e
    exact .inl ⟨⟨xs, q, Nat.le_refl _⟩, hd H p⟩
end
end BC

set_option Elab.async false
set_option linter.all false
set_option maxRecDepth 100000
set_option maxHeartbeats 4000000
/-! an own object is called that an expression makes: f(x)(y) -/
namespace BC
open PySem PySem.Spec PySem.Calls PyProof.Rows L2 Evl
section
variable {X : Cx} {CX : CXT} {k : Nat} {f C a : Addr} {fd : FuncData} {ps ks : List Str} {sp : Sp} {E : XK} {pos : Pos} {fe e : Expr} {es : List Expr} {tf : TE} {t : TA} {dvs : List V} {ds : List Value}
theorem pe_callOX (hf : PE X fe tf) (co : CallOf X.K C f) (F : FnOk X.prog X.w X.K X.mg X.base CX k f fd ps sp) (hr : Room k X.A) (hb : Binds X.K fd ps ds) (hd : Vals dvs ds) (hx : Passes CX X E) (ha : PA X (e :: es) t)
    (ht : eval (.Call fe (e :: es) [] pos) X.env = (do callWith pos (← eval fe X.env) [] (backTo pos (starEach (e :: es) X.env)) (backToKw pos (keywordEach [] X.env))) := by rfl)
    (he : starEach (e :: es) X.env = (false, eval e X.env) :: starEach es X.env := by rfl) (hpl : (backTo pos (starEach es X.env)).any (·.1) = false := by rfl) : PE X (.Call fe (e :: es) [] pos) (tCallO C sp dvs E tf t) := by
  refine ⟨fun pins s σ H Q I h => ?_⟩
  refine Call_ (thn (hf.run pins s σ H _ I h) fun u s1 ⟨c, H1, I1, rc, a, ec, q1⟩ => ?_) ht
  subst ec
  obtain rfl : u = Value.ref a := rc
  have hh := thn (ha.run pos pins s1 σ H1 _ I1 q1) (Q' := fun vs s₁ => (∃ C ox od, PySem.W.InstAt s₁.heap a ox C od ∧ ox.data = .plain) ∧ wpAny (model X.prog X.w) X.A (call (.ref a) ([] ++ vs)) (EP X pins σ Q) X.xe s₁) fun us s2 ⟨vs, H2, I2, r, ⟨dx, fs, ea⟩, q2⟩ => by
    obtain ⟨ox, od, J, hdt⟩ := inst_of I2 ea
    exact ⟨⟨C, ox, od, J, hdt⟩, run_own co F hr hb hd hx I2 ea r q2⟩
  rw [he] at hh ⊢
  exact callWith_own (by show ((false || (backTo pos (starEach es X.env)).any (·.1)) || false) = false; rw [hpl]; rfl) (evalArgs_plain hh)
end
end BC

set_option Elab.async false
set_option linter.all false
set_option maxRecDepth 100000
set_option maxHeartbeats 4000000
/-! repr of anything that is shown: numbers, texts, None, lists, tuples, empty dicts, at any depth -/
namespace BC
open PySem PySem.Spec PyProof.Rows L2 Evl
mutual
inductive De (K : PySem.W.Frag) (H : Hp) : V → PyData → Prop
  | non : De K H .non .none
  | bl (b : Bool) : De K H (.bl b) (.bool b)
  | int (i : Int) : De K H (.int i) (.int i)
  | str (x : Str) : De K H (.str x) (.str x)
  | lst {a : Addr} {xs : List V} {ds : List PyData} : SqL K H a xs → DeAll K H xs ds → De K H (.ref a) (.list ds)
  | tup {a : Addr} {xs : List V} {ds : List PyData} : SqT K H a xs → DeAll K H xs ds → De K H (.ref a) (.tuple ds)
  | dic {a : Addr} : H a = some (.dK []) → De K H (.ref a) (.dict [])
inductive DeAll (K : PySem.W.Frag) (H : Hp) : List V → List PyData → Prop
  | nil : DeAll K H [] []
  | cons {v : V} {vs : List V} {d : PyData} {ds : List PyData} : De K H v d → DeAll K H vs ds → DeAll K H (v :: vs) (d :: ds)
end
section
variable {X : Cx} {pins : List (Addr × Obj)} {σ : L2.St} {H : Hp} {s : Shared}
/-- what is known of a value that is shown -/
def Shows (X : Cx) (s : Shared) (u : Value) (d : PyData) : Prop :=
  (∃ as, Reads s.heap u d as) ∧ ∃ bs, ReadAtMost s.heap d.depth bs ∧ ReprK X.prog X.w bs s.heap d.depth u d.shown
def ShowsAll (X : Cx) (s : Shared) (us : List Value) (ds : List PyData) : Prop :=
  (∃ as, ReadsAll s.heap us ds as) ∧ ∃ bs, ReadAtMost s.heap (PyData.depthAll ds) bs ∧ ReprAllK X.prog X.w bs s.heap (PyData.depthAll ds) us (PyData.shownAll ds)
theorem empty_dict (I : Inv X pins σ H s) {a : Addr} (e : H a = some (.dK [])) : (a == sysModules) = false ∧ ∃ o n, s.heap.get? a = some o ∧ o.cls = .type "dict" ∧ o.data = .dict #[] n := by
  obtain ⟨_, hs, vs, kv, o, es, ep, ho, hx, hd, _, hm, _⟩ := dk_of I.hok e
  cases kv
  have he : es = #[] := by
    obtain ⟨l⟩ := es
    cases l with
    | nil => rfl
    | cons y l => cases hm
  subst he
  exact ⟨hs, o, ep, ho, hx.1, hd⟩
mutual
theorem De.shows (I : Inv X pins σ H s) : ∀ (d : PyData) (v : V) (u : Value), De X.K H v d → RelV v u → d.showable = true → d.shown.length ≤ sizeLine → Shows X s u d
  | .none, _, _, h, r, _, _ => by
    cases h; cases r
    exact ⟨⟨_, .none⟩, [], (fun _ m => nomatch m), by rw [show PyData.shown .none = ("None" : Str) by simp only [PyData.shown]]; exact .of_is ReprIs.none _ _ _⟩
  | .bool b, _, _, h, r, _, _ => by
    cases h; cases r
    exact ⟨⟨_, .bool b⟩, [], (fun _ m => nomatch m), by simp only [PyData.shown]; exact .of_is (ReprIs.bool b) _ _ _⟩
  | .int i, _, _, h, r, hs, _ => by
    cases h
    obtain ⟨t, rfl⟩ := r
    have h1 : i.natAbs.log2 < 1920 := by simpa [PyData.showable] using hs
    exact ⟨⟨_, .int i t⟩, [], (fun _ m => nomatch m), by simp only [PyData.shown]; exact .of_is (ReprIs.int t h1) _ _ _⟩
  | .str x, _, _, h, r, _, hz => by
    cases h
    obtain ⟨t, rfl⟩ := r
    simp only [PyData.shown] at hz
    exact ⟨⟨_, .str x t⟩, [], (fun _ m => nomatch m), by simp only [PyData.shown]; exact .of_is (ReprIs.str x t hz) _ _ _⟩
  | .list ds, _, _, h, r, hs, hz => by
    cases h with
    | lst hl ha =>
      cases r
      obtain ⟨its, rv, ⟨o, n, ho, hc, _, hd⟩, _⟩ := I.list hl
      simp only [PyData.shown] at hz
      simp only [PyData.showable] at hs
      obtain ⟨⟨as, hr⟩, bs, hb, hk⟩ := DeAll.shows I ds _ its ha rv hs fun t ht => Nat.le_trans (listText_mem_le ht) hz
      have r1 : Reads s.heap _ (.list ds) _ := .list ho hc hd hr
      have na := not_mem_of_deeper r1 (show PyData.depthAll ds < PyData.depth (.list ds) by simp only [PyData.depth]; omega) hb
      refine ⟨⟨_, r1⟩, _ :: bs, ReadAtMost.cons r1 (by simp only [PyData.depth]; omega) hb, ?_⟩
      simp only [PyData.depth, PyData.shown]
      cases its with
      | nil =>
        cases hr
        simp only [PyData.shownAll, listText_nil]
        exact ReprK.listEmpty ho hc hd
      | cons y l => exact ReprK.list ho hc hd na (by simpa using hk.length_eq) (fun i y e => hk.item i y (by simpa using e))
  | .tuple ds, _, _, h, r, hs, hz => by
    cases h with
    | tup hl ha =>
      cases r
      obtain ⟨its, rv, ⟨o, ho, hc, n, hd⟩, _⟩ := I.tuple hl
      simp only [PyData.shown] at hz
      simp only [PyData.showable] at hs
      obtain ⟨⟨as, hr⟩, bs, hb, hk⟩ := DeAll.shows I ds _ its ha rv hs fun t ht => Nat.le_trans (tupleText_mem_le ht) hz
      have r1 : Reads s.heap _ (.tuple ds) _ := .tuple ho hc hd hr
      have na := not_mem_of_deeper r1 (show PyData.depthAll ds < PyData.depth (.tuple ds) by simp only [PyData.depth]; omega) hb
      refine ⟨⟨_, r1⟩, _ :: bs, ReadAtMost.cons r1 (by simp only [PyData.depth]; omega) hb, ?_⟩
      simp only [PyData.depth, PyData.shown]
      exact ReprK.tuple ho hc hd na hk
  | .dict kvs, _, _, h, r, hs, hz => by
    cases h with
    | dic e =>
      cases r
      obtain ⟨hsys, o, n, ho, hc, hd⟩ := empty_dict I e
      have r1 : Reads s.heap _ (.dict []) _ := .dict (kvs := []) ho hc hd .nil .nil
      refine ⟨⟨_, r1⟩, [_], ReadAtMost.cons r1 (Nat.zero_le _) (fun _ m => nomatch m), ?_⟩
      simp only [PyData.depth, PyData.shown, PyData.shownKv, PyData.depthKv]
      exact ReprK.dict ho hc hd hsys List.not_mem_nil .nil
theorem DeAll.shows (I : Inv X pins σ H s) : ∀ (ds : List PyData) (vs : List V) (us : List Value), DeAll X.K H vs ds → Vals vs us → PyData.showableAll ds = true → (∀ t ∈ PyData.shownAll ds, t.length ≤ sizeLine) → ShowsAll X s us ds
  | [], _, _, h, r, _, _ => by
    cases h; cases r
    exact ⟨⟨_, .nil⟩, [], (fun _ m => nomatch m), by simp only [PyData.shownAll]; exact .nil⟩
  | d :: ds, _, _, h, r, hs, hz => by
    cases h with
    | cons h1 h2 =>
      cases r with
      | cons r1 r2 =>
        have hs2 : d.showable = true ∧ PyData.showableAll ds = true := by simpa [PyData.showableAll] using hs
        obtain ⟨⟨as, q1⟩, b1, c1, k1⟩ := De.shows I d _ _ h1 r1 hs2.1 (hz _ (by simp only [PyData.shownAll]; exact List.mem_cons_self))
        obtain ⟨⟨as2, q2⟩, b2, c2, k2⟩ := DeAll.shows I ds _ _ h2 r2 hs2.2 (fun t ht => hz t (by simp only [PyData.shownAll]; exact List.mem_cons_of_mem _ ht))
        refine ⟨⟨_, .cons q1 q2⟩, b1 ++ b2, ReadAtMost.append (c1.mono ?_) (c2.mono ?_), ?_⟩
        · simp only [PyData.depthAll]; omega
        · simp only [PyData.depthAll]; omega
        · simp only [PyData.depthAll, PyData.shownAll]
          exact .cons ((k1.more fun b m => List.mem_append_left _ m).level_le (by omega)) (k2.more_le (fun b m => List.mem_append_right _ m) (by omega))
end
def rReprA (K : PySem.W.Frag) : List V → Hp → VK → Prop := fun xs H Q => ∃ v d, xs = [v] ∧ De K H v d ∧ d.showable = true ∧ d.depth ≤ 60 ∧ d.shown.length ≤ sizeLine ∧ Q (.str d.shown) H
theorem k_reprA {K : PySem.W.Frag} (hK : X.K = K) (g : G0 X.A) (hu : X.A.units + 64 < cLine) : CallR X (.builtin "repr") (rReprA K) := by
  subst hK
  intro pins s σ H xs us Q I r h
  obtain ⟨v, d, rfl, hd, h1, h2, h4, q⟩ := h
  obtain ⟨u, rfl, ru⟩ := vals1 r
  have fin : ∀ (h' : Heap) (t tk : Nat), (∀ b o, s.heap.get? b = some o → h'.get? b = some o) → EP X pins σ Q (.str d.shown t) { s with heap := h', toks := tk } := fun h' t tk hk => ⟨.str _, H, I.kept hk, ⟨_, rfl⟩, q⟩
  cases hd with
  | non =>
    cases ru
    simp only [PyData.shown] at fin
    exact P.repr_of_none (fin s.heap _ _ fun _ _ e => e)
  | bl b =>
    cases ru
    simp only [PyData.shown] at fin
    exact P.repr_of_bool (fin s.heap _ _ fun _ _ e => e)
  | int i =>
    obtain ⟨t, rfl⟩ := ru
    simp only [PyData.shown] at fin
    exact P.repr_of_int (by simpa [PyData.showable] using h1) (fin s.heap _ _ fun _ _ e => e)
  | str x =>
    obtain ⟨t, rfl⟩ := ru
    simp only [PyData.shown] at fin h4
    exact P.repr_of_str (fin s.heap _ _ fun _ _ e => e) h4
  | @lst a ys ds hl ha =>
    cases ru
    obtain ⟨its, rv, ⟨o, n, ho, hc, _, hd⟩, _⟩ := I.list hl
    simp only [PyData.shown] at h4 fin
    simp only [PyData.showable] at h1
    simp only [PyData.depth] at h2
    obtain ⟨⟨as, hr⟩, bs, hb, hk⟩ := DeAll.shows I ds _ its ha rv h1 fun t ht => Nat.le_trans (listText_mem_le ht) h4
    have r1 : Reads s.heap _ (.list ds) _ := .list ho hc hd hr
    have na := not_mem_of_deeper r1 (show PyData.depthAll ds < PyData.depth (.list ds) by simp only [PyData.depth]; omega) hb
    refine call_repr_slot (by omega) ⟨o, ho, hc⟩ PySem.F.slot_list_repr.toG ?_
    cases its with
    | nil =>
      cases hr
      simp only [PyData.shownAll, listText_nil] at fin
      exact call_list_repr_empty ⟨o, ho, hc⟩ ho hd ⟨_, _, rfl, fin s.heap _ _ fun _ _ e => e⟩
    | cons y l => exact call_list_reprK ho hc hd na (by simpa using hk.length_eq) (fun i y e => hk.item i y (by simpa using e)) g (fun b _ => Clear.nil b) (by show X.A.units + 1 + _ < cLine; omega) (fun _ _ e => e) (fun h' u tk k => ⟨_, _, rfl, fin h' u tk k⟩) h4
  | @tup a ys ds hl ha =>
    cases ru
    obtain ⟨its, rv, ⟨o, ho, hc, n, hd⟩, _⟩ := I.tuple hl
    simp only [PyData.shown] at h4 fin
    simp only [PyData.showable] at h1
    simp only [PyData.depth] at h2
    obtain ⟨⟨as, hr⟩, bs, hb, hk⟩ := DeAll.shows I ds _ its ha rv h1 fun t ht => Nat.le_trans (tupleText_mem_le ht) h4
    have r1 : Reads s.heap _ (.tuple ds) _ := .tuple ho hc hd hr
    have na := not_mem_of_deeper r1 (show PyData.depthAll ds < PyData.depth (.tuple ds) by simp only [PyData.depth]; omega) hb
    refine call_repr_slot (by omega) ⟨o, ho, hc⟩ PySem.F.slot_tuple_repr ?_
    exact call_tuple_reprK ho hc hd na hk g (fun b _ => Clear.nil b) (by show X.A.units + 1 + _ < cLine; omega) (fun _ _ e => e) (fun h' u tk k => ⟨_, _, rfl, fin h' u tk k⟩) h4
  | dic e =>
    cases ru
    obtain ⟨hsys, o, n, ho, hc, hd⟩ := empty_dict I e
    simp only [PyData.shown, PyData.shownKv] at h4 fin
    refine call_repr_slot (by omega) ⟨o, ho, hc⟩ PySem.F.slot_dict_repr ?_
    exact call_dict_reprK (as := []) (d := 0) ho hc hd hsys List.not_mem_nil .nil g (fun b _ => Clear.nil b) (by show X.A.units + 1 + _ < cLine; omega) (fun _ _ e => e) (fun h' u tk k => ⟨_, _, rfl, fin h' u tk k⟩) h4
end
/-! ### what is shown stays so, its type, its size -/
section
variable {K : PySem.W.Frag} {H H' : Hp} {Q : VK}
mutual
theorem De.ex (e : Ex H H') : ∀ (d : PyData) (v : V), De K H v d → De K H' v d
  | .none, _, h => by cases h; exact .non
  | .bool _, _, h => by cases h; exact .bl _
  | .int _, _, h => by cases h; exact .int _
  | .str _, _, h => by cases h; exact .str _
  | .dict _, _, h => by
    cases h with
    | dic h1 => exact .dic (e _ _ h1)
  | .list ds, _, h => by
    cases h with
    | lst h1 h2 => exact .lst (ex_l e h1) (DeAll.ex e ds _ h2)
  | .tuple ds, _, h => by
    cases h with
    | tup h1 h2 => exact .tup (ex_t e h1) (DeAll.ex e ds _ h2)
theorem DeAll.ex (e : Ex H H') : ∀ (ds : List PyData) (vs : List V), DeAll K H vs ds → DeAll K H' vs ds
  | [], _, h => by cases h; exact .nil
  | d :: ds, _, h => by
    cases h with
    | cons h1 h2 => exact .cons (De.ex e d _ h1) (DeAll.ex e ds _ h2)
end
theorem De.ty {v : V} {d : PyData} (h : De K H v d) : TyX K H v (.type (tyn d)) := by
  cases h with
  | non => exact .base .non
  | bl b => exact .base (.bl b)
  | int i => exact .base (.int i)
  | str x => exact .base (.str x)
  | lst h _ => exact tyx_l h
  | tup h _ => exact tyx_t h
  | dic h => exact .base (.dK h)
theorem de_ints (ns : List Int) : DeAll K H (ns.map V.int) (ns.map PyData.int) := by
  induction ns with
  | nil => exact .nil
  | cons n ns ih => exact .cons (.int n) ih
theorem DeAll.len {vs : List V} {ds : List PyData} (h : DeAll K H vs ds) : vs.length = ds.length := by
  induction ds generalizing vs with
  | nil => cases h; rfl
  | cons d ds ih =>
    cases h with
    | cons _ h2 => simp [ih h2]
theorem DeAll.at {vs : List V} {ds : List PyData} (h : DeAll K H vs ds) {i : Nat} {v : V} (hv : vs[i]? = some v) : ∃ d, ds[i]? = some d ∧ De K H v d := by
  induction ds generalizing vs i with
  | nil => cases h; simp at hv
  | cons d ds ih =>
    cases h with
    | cons h1 h2 =>
      cases i with
      | zero => cases hv; exact ⟨d, rfl, h1⟩
      | succ i => exact ih h2 (by simpa using hv)
theorem DeAll.app {vs ws : List V} {ds es : List PyData} (h : DeAll K H vs ds) (g : DeAll K H ws es) : DeAll K H (vs ++ ws) (ds ++ es) := by
  induction ds generalizing vs with
  | nil => cases h; exact g
  | cons d ds ih =>
    cases h with
    | cons h1 h2 => exact .cons h1 (ih h2)
/-- shown in few signs -/
structure Gd (n W : Nat) (d : PyData) : Prop where
  s : d.showable = true
  l : d.leavesShort 40 = true
  dp : d.depth ≤ n
  w : d.weight ≤ W
theorem Gd.mono {n W n2 W2 : Nat} {d : PyData} (h : Gd n W d) (a : n ≤ n2) (b : W ≤ W2) : Gd n2 W2 d := ⟨h.s, h.l, Nat.le_trans h.dp a, Nat.le_trans h.w b⟩
theorem Gd.non : Gd 0 0 .none := ⟨rfl, rfl, Nat.le_refl _, Nat.le_refl _⟩
theorem Gd.bl (b : Bool) : Gd 0 0 (.bool b) := ⟨rfl, rfl, Nat.le_refl _, Nat.le_refl _⟩
theorem Gd.dic : Gd 1 0 (.dict []) := ⟨by simp [PyData.showable, PyData.showableKv], by simp [PyData.leavesShort, PyData.leavesShortKv], by simp [PyData.depth, PyData.depthKv], by simp [PyData.weight, PyData.weightKv]⟩
theorem Gd.int {i : Int} (h : i.natAbs < 10 ^ 38) : Gd 0 130 (.int i) := by
  have h2 : i.natAbs < 2 ^ 130 := Nat.lt_trans h (by decide +kernel)
  have hl : i.natAbs.log2 < 130 := log2_small (by decide) h2
  refine ⟨?_, ?_, Nat.le_refl _, ?_⟩
  · show decide (i.natAbs.log2 < 1920) = true
    exact decide_eq_true (by omega)
  · show decide ((PyData.shown (.int i)).length ≤ 40) = true
    refine decide_eq_true ?_
    have e := int_text_length_le10 (k := 38) (by decide) h
    simp only [PyData.shown]
    rw [show ((toString i : String) : Str).length = (toString i).length from PySem.ofString_length _]
    omega
  · simp only [PyData.weight]
    split
    · omega
    · omega
theorem Gd.str {x : Str} (h : (PyData.str x).leavesShort 40 = true) : Gd 0 x.cps.size (.str x) := ⟨rfl, h, Nat.le_refl _, by simp only [PyData.weight]; exact Nat.le_refl _⟩
theorem gd_all {ds : List PyData} {n W : Nat} (h : ∀ d ∈ ds, Gd n W d) : PyData.showableAll ds = true ∧ PyData.leavesShortAll 40 ds = true ∧ PyData.depthAll ds ≤ n ∧ PyData.weightAll ds ≤ (W + 1) * ds.length := by
  induction ds with
  | nil => exact ⟨rfl, rfl, Nat.zero_le _, Nat.zero_le _⟩
  | cons d ds ih =>
    have a := h d List.mem_cons_self
    obtain ⟨b1, b2, b3, b4⟩ := ih fun e m => h e (List.mem_cons_of_mem _ m)
    have := a.dp
    have := a.w
    simp only [PyData.showableAll, PyData.leavesShortAll, PyData.depthAll, PyData.weightAll, List.length_cons, Nat.mul_add, a.s, a.l, b1, b2, Bool.and_self]
    exact ⟨trivial, trivial, by omega, by omega⟩
theorem Gd.list {ds : List PyData} {n W : Nat} (h : ∀ d ∈ ds, Gd n W d) : Gd (n + 1) ((W + 1) * ds.length) (.list ds) := by
  obtain ⟨b1, b2, b3, b4⟩ := gd_all h
  exact ⟨by simp only [PyData.showable]; exact b1, by simp only [PyData.leavesShort]; exact b2, by simp only [PyData.depth]; omega, by simp only [PyData.weight]; exact b4⟩
theorem Gd.tuple {ds : List PyData} {n W : Nat} (h : ∀ d ∈ ds, Gd n W d) : Gd (n + 1) ((W + 1) * ds.length) (.tuple ds) := by
  obtain ⟨b1, b2, b3, b4⟩ := gd_all h
  exact ⟨by simp only [PyData.showable]; exact b1, by simp only [PyData.leavesShort]; exact b2, by simp only [PyData.depth]; omega, by simp only [PyData.weight]; exact b4⟩
theorem Gd.fits {n W : Nat} {d : PyData} (h : Gd n W d) (hW : W ≤ 370000) : d.shown.length ≤ sizeLine := by
  have a := PyData.shown_le 40 (by decide) d h.l
  have b := h.w
  rw [sizeLine_eq]
  omega
theorem reprA {v : V} {d : PyData} {n W : Nat} (h : De K H v d) (g : Gd n W d) (hn : n ≤ 60) (hW : W ≤ 370000) (q : Q (.str d.shown) H) : rReprA K [v] H Q :=
  ⟨v, d, rfl, h, g.s, Nat.le_trans g.dp hn, g.fits hW, q⟩
end
/-! ### values that are shown in few signs; one address hidden -/
def hidB (b : Addr) (H : Hp) : Hp := fun a => if a = b then none else H a
theorem hid_ex {b : Addr} {H : Hp} : Ex (hidB b H) H := fun a o h => by
  unfold hidB at h
  split at h
  · cases h
  · exact h
theorem hid_ne {b a : Addr} {H : Hp} (n : a ≠ b) : hidB b H a = H a := by
  unfold hidB
  rw [if_neg n]
theorem hid_fx {b : Addr} {H H' : Hp} (f : Fx b H H') : Ex (hidB b H) (hidB b H') := fun a o h => by
  unfold hidB at h ⊢
  by_cases e : a = b
  · rw [if_pos e] at h; cases h
  · rw [if_neg e] at h ⊢
    exact f a o e h
theorem hid_of {b : Addr} {H H' : Hp} (e : Ex H H') : Ex (hidB b H) (hidB b H') := hid_fx (fun a o _ h => e a o h)
def Sv (K : PySem.W.Frag) (H : Hp) (n W : Nat) (v : V) : Prop := ∃ d, De K H v d ∧ Gd n W d
section
variable {K : PySem.W.Frag} {H H' : Hp} {Q : VK} {n W : Nat} {v : V}
theorem Sv.ex (h : Sv K H n W v) (e : Ex H H') : Sv K H' n W v := by
  obtain ⟨d, a, g⟩ := h
  exact ⟨d, De.ex e d v a, g⟩
theorem Sv.mono {n2 W2 : Nat} (h : Sv K H n W v) (a : n ≤ n2) (b : W ≤ W2) : Sv K H n2 W2 v := by
  obtain ⟨d, x, g⟩ := h
  exact ⟨d, x, g.mono a b⟩
theorem Sv.non : Sv K H n W .non := ⟨_, .non, Gd.non.mono (Nat.zero_le _) (Nat.zero_le _)⟩
theorem Sv.bl (b : Bool) : Sv K H n W (.bl b) := ⟨_, .bl b, (Gd.bl b).mono (Nat.zero_le _) (Nat.zero_le _)⟩
theorem Sv.int {i : Int} (h : i.natAbs < 10 ^ 38) (hW : 130 ≤ W) : Sv K H n W (.int i) := ⟨_, .int i, (Gd.int h).mono (Nat.zero_le _) hW⟩
theorem Sv.str {x : Str} (h : (PyData.str x).leavesShort 40 = true) (hW : x.cps.size ≤ W) : Sv K H n W (.str x) := ⟨_, .str x, (Gd.str h).mono (Nat.zero_le _) hW⟩
theorem Sv.dic {a : Addr} (h : H a = some (.dK [])) (hn : 1 ≤ n) : Sv K H n W (.ref a) := ⟨_, .dic h, Gd.dic.mono hn (Nat.zero_le _)⟩
theorem sv_all {xs : List V} (h : ∀ x ∈ xs, Sv K H n W x) : ∃ ds, DeAll K H xs ds ∧ (∀ d ∈ ds, Gd n W d) ∧ ds.length = xs.length := by
  induction xs with
  | nil => exact ⟨[], .nil, (fun _ m => nomatch m), rfl⟩
  | cons x xs ih =>
    obtain ⟨d, a, g⟩ := h x List.mem_cons_self
    obtain ⟨ds, b, c, l⟩ := ih fun y m => h y (List.mem_cons_of_mem _ m)
    refine ⟨d :: ds, .cons a b, fun e m => ?_, by simp [l]⟩
    rcases List.mem_cons.mp m with rfl | m
    · exact g
    · exact c e m
theorem Sv.lst {a : Addr} {xs : List V} {W2 n2 : Nat} (h : SqL K H a xs) (hx : ∀ x ∈ xs, Sv K H n W x) (hn : n + 1 ≤ n2) (hW : (W + 1) * xs.length ≤ W2) : Sv K H n2 W2 (.ref a) := by
  obtain ⟨ds, b, c, l⟩ := sv_all hx
  exact ⟨.list ds, .lst h b, (Gd.list c).mono hn (by rw [l]; exact hW)⟩
theorem Sv.tup {a : Addr} {xs : List V} {W2 n2 : Nat} (h : SqT K H a xs) (hx : ∀ x ∈ xs, Sv K H n W x) (hn : n + 1 ≤ n2) (hW : (W + 1) * xs.length ≤ W2) : Sv K H n2 W2 (.ref a) := by
  obtain ⟨ds, b, c, l⟩ := sv_all hx
  exact ⟨.tuple ds, .tup h b, (Gd.tuple c).mono hn (by rw [l]; exact hW)⟩
theorem sv_ints {ns : List Int} (h : ∀ i ∈ ns, i.natAbs < 10 ^ 38) (hW : 130 ≤ W) : ∀ x ∈ ns.map V.int, Sv K H n W x := fun x m => by
  obtain ⟨i, hi, rfl⟩ := List.mem_map.mp m
  exact .int (h i hi) hW
end
/-- a part of a list of numbers is one -/
theorem cut_ints (ns : List Int) (lo hi : Option Int) : ∃ ms : List Int, cutV (ns.map V.int) lo hi = ms.map V.int ∧ ms.length ≤ ns.length ∧ ∀ m ∈ ms, m ∈ ns := by
  have h : ∀ xs : List V, (∀ x ∈ xs, x ∈ ns.map V.int) → ∃ ms : List Int, xs = ms.map V.int ∧ ∀ m ∈ ms, m ∈ ns := fun xs => by
    induction xs with
    | nil => exact fun _ => ⟨[], rfl, fun _ m => nomatch m⟩
    | cons x xs ih =>
      intro hx
      obtain ⟨i, hi, rfl⟩ := List.mem_map.mp (hx x List.mem_cons_self)
      obtain ⟨ms, rfl, hm⟩ := ih fun y m => hx y (List.mem_cons_of_mem _ m)
      refine ⟨i :: ms, rfl, fun m e => ?_⟩
      rcases List.mem_cons.mp e with rfl | e
      · exact hi
      · exact hm m e
  obtain ⟨ms, e, hm⟩ := h _ fun x m => cutV_mem m
  refine ⟨ms, e, ?_, hm⟩
  have := cutV_len (ns.map V.int) lo hi
  rw [e, List.length_map, List.length_map] at this
  exact this
/-! ### new things with the heap left closed -/
section
variable {K : PySem.W.Frag} {H : Hp} {Q : VK}
theorem newE {o : HO} (q : ∀ (p : Addr) (H' : Hp), H p = none → Ex H H' → H' p = some o → Q (.ref p) H') : ∀ p, H p = none → Q (.ref p) (upd H p o) := fun p np => q p _ np (Ex.new np) upd_same
theorem slE {a : Addr} {lo hi : Option Int} {row : List Int} (h : SqL K H a (row.map V.int)) (q : ∀ (p : Addr) (H' : Hp) (ms : List Int), H p = none → Ex H H' → H' p = some (.lst (ms.map V.int)) → ms.length ≤ row.length → (∀ m ∈ ms, m ∈ row) → Q (.ref p) H') : rSlL K (.ref a) lo hi H Q := by
  obtain ⟨ms, e, l, i⟩ := cut_ints row lo hi
  refine slL h fun z nz => ?_
  rw [e]
  exact q z _ ms nz (Ex.new nz) upd_same l i
theorem slXE {a : Addr} {lo hi : Option Int} {xs : List V} (h : SqL K H a xs) (q : ∀ (p : Addr) (H' : Hp) (ys : List V), H p = none → Ex H H' → H' p = some (.lst ys) → ys = cutV xs lo hi → ys.length ≤ xs.length → (∀ m ∈ ys, m ∈ xs) → Q (.ref p) H') : rSlL K (.ref a) lo hi H Q :=
  slL h fun z nz => q z _ _ nz (Ex.new nz) upd_same rfl (cutV_len _ _ _) fun m hm => cutV_mem hm
theorem catE {a b : Addr} {xs ys : List V} (h : H a = some (.lst xs)) (hb : H b = some (.lst ys)) (hz : xs.length + ys.length ≤ 100000) (q : ∀ (p : Addr) (H' : Hp), H p = none → Ex H H' → H' p = some (.lst (xs ++ ys)) → Q (.ref p) H') : rCat (.ref a) (.ref b) H Q :=
  catL h hb (sz_ok hz) (newE q)
theorem repE {a : Addr} {xs : List V} {k : Nat} (h : H a = some (.lst xs)) (hk : k ≤ 100000) (hz : xs.length * k ≤ 100000) (q : ∀ (p : Addr) (H' : Hp), H p = none → Ex H H' → H' p = some (.lst (List.replicate k xs).flatten) → Q (.ref p) H') : rRep (.ref a) (.int k) H Q :=
  repL h (by omega) (by omega) (sz_ok (by simpa using hz)) (by simpa using newE q)
theorem lstE {xs : List V} (hz : xs.length ≤ 100000) (q : ∀ (p : Addr) (H' : Hp), H p = none → Ex H H' → H' p = some (.lst xs) → Q (.ref p) H') : xs.length ≤ sizeLine ∧ ∀ p, H p = none → Q (.ref p) (upd H p (.lst xs)) := ⟨sz_ok hz, newE q⟩
theorem tupE {xs : List V} (hz : xs.length ≤ 100000) (q : ∀ (p : Addr) (H' : Hp), H p = none → Ex H H' → H' p = some (.tup xs) → Q (.ref p) H') : xs.length ≤ sizeLine ∧ ∀ p, H p = none → Q (.ref p) (upd H p (.tup xs)) := ⟨sz_ok hz, newE q⟩
end
end BC

set_option Elab.async false
set_option linter.all false
set_option maxRecDepth 100000
set_option maxHeartbeats 4000000
/-! sorted(set(xs)), len(set(xs)) of a longer list of numbers, with doubles -/
namespace BC
open PySem PySem.Spec PyProof.Rows L2 Evl RZ
theorem sub_len : ∀ {a b : List Int}, a.Nodup → (∀ x ∈ a, x ∈ b) → a.length ≤ b.length
  | [], _, _, _ => Nat.zero_le _
  | x :: a, b, nd, h => by
    rw [List.nodup_cons] at nd
    have hx := h x List.mem_cons_self
    have ih := sub_len (a := a) (b := b.erase x) nd.2 fun y hy => (List.mem_erase_of_ne (fun e => nd.1 (by rw [← e]; exact hy))).mpr (h y (List.mem_cons_of_mem _ hy))
    rw [List.length_erase_of_mem hx] at ih
    have := List.length_pos_of_mem hx
    rw [List.length_cons]
    omega
theorem dup_len {a b : List Int} (nd : a.Nodup) (h : ∀ x ∈ a, x ∈ b) (g : ∀ x ∈ b, x ∈ a) (e : a.length = b.length) : b.Nodup := by
  induction b generalizing a with
  | nil => exact List.nodup_nil
  | cons y b ih =>
    have hy := g y List.mem_cons_self
    have el := List.length_erase_of_mem hy
    have pos := List.length_pos_of_mem hy
    by_cases q : y ∈ b
    · have : a.length ≤ b.length := sub_len nd fun x hx => by
        rcases List.mem_cons.mp (h x hx) with rfl | m
        · exact q
        · exact m
      rw [List.length_cons] at e
      omega
    · rw [List.nodup_cons]
      refine ⟨q, ih (a := a.erase y) (nd.erase y) (fun x hx => ?_) (fun x hx => ?_) ?_⟩
      · have hne := (List.Nodup.mem_erase_iff nd).mp hx
        rcases List.mem_cons.mp (h x hne.2) with rfl | m
        · exact absurd rfl hne.1
        · exact m
      · exact (List.Nodup.mem_erase_iff nd).mpr ⟨fun z => q (by rw [← z]; exact hx), g x (List.mem_cons_of_mem _ hx)⟩
      · rw [List.length_cons] at e
        omega
theorem range_len {a : List Int} {m : Nat} (nd : a.Nodup) (h : ∀ x ∈ a, 0 ≤ x ∧ x < m) : a.length ≤ m := by
  have := sub_len (b := (List.range m).map fun i : Nat => (i : Int)) nd fun x hx => by
    have := h x hx
    exact List.mem_map.mpr ⟨x.toNat, List.mem_range.mpr (by omega), by show ((x.toNat : Nat) : Int) = x; omega⟩
  rw [List.length_map, List.length_range] at this
  exact this
section
variable {w : World} {h : Heap} {a : Addr} {S : Int → Bool} {n m : Nat}
theorem setR_few (R : SetR w h a S n) (hb : ∀ k, S k = true → 0 ≤ k ∧ k < m) : n ≤ m := by
  obtain ⟨o, es, ep, t, ho, hex, hd, g, nd, hm, hbd, hf, hn, hr, hl⟩ := R
  have := range_len (m := m) nd fun x hx => hb x ((hm x).mpr hx)
  rw [List.length_map, Array.length_toList] at this
  omega
theorem setR_count {ns : List Int} (R : SetR w h a (fun j => decide (j ∈ ns)) n) : n = ns.length ↔ ns.Nodup := by
  obtain ⟨o, es, ep, t, ho, hex, hd, g, nd, hm, hbd, hf, hn, hr, hl⟩ := R
  have sub : ∀ x ∈ es.toList.map keyOf, x ∈ ns := fun x hx => of_decide_eq_true ((hm x).mpr hx)
  have sup : ∀ x ∈ ns, x ∈ es.toList.map keyOf := fun x hx => (hm x).mp (decide_eq_true hx)
  have e1 : (es.toList.map keyOf).length = n := by rw [List.length_map, Array.length_toList]; exact hn
  constructor
  · intro e
    exact dup_len nd sub sup (by rw [e1]; exact e)
  · intro q
    have := sub_len q sup
    have := sub_len nd sub
    omega
end
section
variable {X : Cx} {K : PySem.W.Frag} {a : Expr} {ta : TE} {p p2 q pos : Pos}
/-- sorted(set(xs)): numbers below 60, as many as there are -/
def tSortSetB (K : PySem.W.Frag) (ta : TE) : TE := fun σ H Q => ta σ H fun x H1 => ∃ (l : Addr) (ns : List Int), x = .ref l ∧ SqL K H1 l (ns.map V.int) ∧ ns.length ≤ 4000 ∧ (∀ k ∈ ns, 0 ≤ k ∧ k < (60 : Nat)) ∧
  ∀ (ms : List Int) r, ms.Pairwise (· < ·) → (∀ k : Int, k ∈ ms ↔ k ∈ ns) → H1 r = none → Q (.ref r) (upd H1 r (.lst (ms.map V.int)))
theorem k_sortSetB (hK : X.K = K) (hg : Gl X "sorted") (hm : X.mg "sorted" = none) (hg2 : Gl X "set") (hm2 : X.mg "set" = none) (ha : PE X a ta) (hc : X.calm = true := by rfl)
    (na : starEach [a] X.env = (false, eval a X.env) :: starEach [] X.env := by rfl) : PE X (.Call (.Name "sorted" p) [.Call (.Name "set" p2) [a] [] q] [] pos) (tSortSetB K ta) := by
  subst hK
  refine ⟨fun pins s σ H Q I h => ?_⟩
  refine Call_ (ld_blt I hg hm (show bootBuiltins ("sorted" : Str) = some (.builtin "sorted") by decide +kernel) ?_)
  refine callWith_builtin1 (args_cons ?_ rfl) rfl rfl
  refine Call_ (ld_blt I hg2 hm2 boot_set ?_)
  refine callWith_type1 (args_cons (thn (ha.run pins s σ H _ I h) fun v s1 ⟨x, H1, I1, r1, q1⟩ => args_nil ?_) na) na rfl
  obtain ⟨l, ns, rfl, hq, hl, hb, q1⟩ := q1
  cases r1
  obtain ⟨its, r, pl, hz⟩ := I1.list hq
  refine set_of_list ns (I1.ok.hd hc) pl.isList (by simpa using intsAre_vals r) (by unfold scanBound; omega) fun h' tk c hS hcl hk => ?_
  refine args_nil ?_
  have I2 : Inv X pins σ H1 { s1 with heap := h', toks := tk } := I1.kept hk
  have few60 := setR_few (m := 60) hS fun k hk => hb k (of_decide_eq_true hk)
  refine sorted_set hS (I2.ok.hd hc) (by omega) fun s' p out c2 ms k g o hp hg hi hs hm hlen => ?_
  have few : (ms.map V.int).length ≤ sizeLine := by rw [List.length_map, hlen, sizeLine_eq]; omega
  have hn : H1 p = none := I2.hok.fresh hp
  have J : Inv X pins σ (upd H1 p (.lst (ms.map V.int))) { ({ s1 with heap := h', toks := tk } : Shared) with heap := s'.heap, gens := s'.gens, drawn := s'.drawn, toks := s'.toks } :=
    I2.call (ch := []) (Un.laid k hp hn) (I2.hok.laid k hp ⟨few, out.toList, c2, vals_of_ints hi, hg⟩) (by rw [g]; exact I2.bare) (fun _ z => nomatch z)
  have e : s' = { ({ s1 with heap := h', toks := tk } : Shared) with heap := s'.heap, gens := s'.gens, drawn := s'.drawn, toks := s'.toks } := by
    cases s'
    cases o
    rfl
  rw [e]
  exact ⟨.ref p, _, J, rfl, q1 ms p hs (fun k => by rw [hm k, decide_eq_true_eq]) hn⟩
theorem x_sortSetB {σ : L2.St} {H : Hp} {Q : VK} : tSortSetB K ta σ H Q = ta σ H fun x H1 => ∃ (l : Addr) (ns : List Int), x = .ref l ∧ SqL K H1 l (ns.map V.int) ∧ ns.length ≤ 4000 ∧ (∀ k ∈ ns, 0 ≤ k ∧ k < (60 : Nat)) ∧
  ∀ (ms : List Int) r, ms.Pairwise (· < ·) → (∀ k : Int, k ∈ ms ↔ k ∈ ns) → H1 r = none → Q (.ref r) (upd H1 r (.lst (ms.map V.int))) := rfl
/-- len(set(xs)): as many as the list has just where nothing stands twice -/
def tLenSetA (K : PySem.W.Frag) (ta : TE) : TE := fun σ H Q => ta σ H fun x H1 => ∃ (l : Addr) (ns : List Int), x = .ref l ∧ SqL K H1 l (ns.map V.int) ∧ ns.length ≤ 4000 ∧ ∀ n : Nat, (n = ns.length ↔ ns.Nodup) → n ≤ ns.length → Q (.int (n : Nat)) H1
theorem k_lenSetA (hK : X.K = K) (hg : Gl X "len") (hm : X.mg "len" = none) (hg2 : Gl X "set") (hm2 : X.mg "set" = none) (ha : PE X a ta) (hc : X.calm = true := by rfl)
    (na : starEach [a] X.env = (false, eval a X.env) :: starEach [] X.env := by rfl) : PE X (.Call (.Name "len" p) [.Call (.Name "set" p2) [a] [] q] [] pos) (tLenSetA K ta) := by
  subst hK
  refine ⟨fun pins s σ H Q I h => ?_⟩
  refine Call_ (ld_blt I hg hm boot_len ?_)
  refine callWith_builtin1 (args_cons ?_ rfl) rfl rfl
  refine Call_ (ld_blt I hg2 hm2 boot_set ?_)
  refine callWith_type1 (args_cons (thn (ha.run pins s σ H _ I h) fun v s1 ⟨x, H1, I1, r1, q1⟩ => args_nil ?_) na) na rfl
  obtain ⟨l, ns, rfl, hq, hl, q1⟩ := q1
  cases r1
  obtain ⟨its, r, pl, hz⟩ := I1.list hq
  refine set_of_list ns (I1.ok.hd hc) pl.isList (by simpa using intsAre_vals r) (by unfold scanBound; omega) fun h' tk c hS hcl hk => ?_
  refine args_nil ?_
  have I2 : Inv X pins σ H1 { s1 with heap := h', toks := tk } := I1.kept hk
  have cnt := setR_count hS
  obtain ⟨o, es, ep, t, ho, hex, hd, _, _, _, hbd, hf, hn, _, _⟩ := hS
  exact call_len_set ho hex hd hf (by rw [hn]; omega) ⟨.int c, H1, I2.tok _, ⟨_, by rw [hn]⟩, q1 c cnt hcl⟩
theorem x_lenSetA {σ : L2.St} {H : Hp} {Q : VK} : tLenSetA K ta σ H Q = ta σ H fun x H1 => ∃ (l : Addr) (ns : List Int), x = .ref l ∧ SqL K H1 l (ns.map V.int) ∧ ns.length ≤ 4000 ∧ ∀ n : Nat, (n = ns.length ↔ ns.Nodup) → n ≤ ns.length → Q (.int (n : Nat)) H1 := rfl
end
end BC

set_option Elab.async false
set_option linter.all false
set_option maxRecDepth 100000
set_option maxHeartbeats 4000000
/-! whether any value is a site; a list held against the empty one -/
namespace BC
open PySem PySem.Spec PyProof.Rows L2 Evl
section
variable {X : Cx} {K : PySem.W.Frag}
/-- == of any list and an empty one -/
def rEqNil (K : PySem.W.Frag) : R2 := fun x y H Q => ∃ (a b : Addr) (xs : List V), x = .ref a ∧ y = .ref b ∧ SqL K H a xs ∧ SqL K H b [] ∧ Q (.bl (decide (xs = []))) H
theorem k_eqNil (hK : X.K = K) (hu : X.A.units + 64 < cLine) : OpR X (compareOp .Eq) (rEqNil K) := by
  subst hK
  intro pins s σ H x y v u Q I rx ry h
  obtain ⟨a, b, xs, rfl, rfl, ha, hb, q⟩ := h
  cases rx
  cases ry
  obtain ⟨its, r, p1, _⟩ := I.list ha
  obtain ⟨its2, r2, p2, _⟩ := I.list hb
  have z2 : its2 = [] := by cases r2; rfl
  subst z2
  have lr := r.length
  cases xs with
  | nil =>
    have z1 : its = [] := by cases r; rfl
    subst z1
    rw [decide_eq_true rfl] at q
    exact SeqAt.eq_listAt (e := fun _ => true) p1.isList p2.isList rfl (by omega) (fun j h1 _ => absurd h1 (by simp)) ⟨.bl true, H, I, rfl, q⟩
  | cons x xs =>
    rw [decide_eq_false (by simp)] at q
    exact SeqAt.eq_list_lengthsAt p1.isList p2.isList (by simp; intro e; subst e; simp at lr) (by omega) ⟨.bl false, H, I, rfl, q⟩
theorem eqNil {a b : Addr} {xs : List V} {H : Hp} {Q : VK} (ha : SqL K H a xs) (hb : SqL K H b []) (q : Q (.bl (decide (xs = []))) H) : rEqNil K (.ref a) (.ref b) H Q := ⟨a, b, xs, rfl, rfl, ha, hb, q⟩
end
/-! ### the plain law -/
def inD (lo hi : Int) : PyData → Bool
  | .int i => decide (lo ≤ i) && decide (i ≤ hi)
  | _ => false
def numD : PyData → Int
  | .int i => i
  | _ => 0
/-- is the value a row of links of page i among m pages? -/
def isRowD (i : Nat) (m : Int) : PyData → Bool
  | .list ds => if ds.all (inD 0 (m - 1)) = true then decide ((i : Int) ∉ ds.map numD) && decide ((ds.map numD).Pairwise (· < ·)) else false
  | _ => false
def isSiteD : PyData → Bool
  | .list ds => if 1 ≤ ds.length ∧ ds.length ≤ 12 then (List.range ds.length).all fun i => isRowD i ds.length (ds.getD i .none) else false
  | _ => false
/-- the law's own look at a row -/
def netRow (m : Int) (i : Nat) : Int → List PyData → Bool
  | _, [] => true
  | last, .int x :: ds => if x ≤ last ∨ x ≥ m then false else if x = i then false else netRow m i x ds
  | _, .none :: _ => false
  | _, .bool _ :: _ => false
  | _, .str _ :: _ => false
  | _, .list _ :: _ => false
  | _, .tuple _ :: _ => false
  | _, .dict _ :: _ => false
theorem netRow_iff (m : Int) (i : Nat) : ∀ (ds : List PyData) (last : Int), -1 ≤ last → (netRow m i last ds = true ↔ (ds.all (inD 0 (m - 1)) = true ∧ (i : Int) ∉ ds.map numD ∧ (ds.map numD).Pairwise (· < ·) ∧ ∀ n ∈ ds.map numD, last < n)) := by
  intro ds
  induction ds with
  | nil => intro last _; simp [netRow]
  | cons d ds ih =>
    intro last hl
    cases d with
    | int x =>
      simp only [netRow, List.map_cons, List.all_cons, numD, List.mem_cons, List.pairwise_cons]
      by_cases c1 : x ≤ last ∨ x ≥ m
      · rw [if_pos c1]
        constructor
        · intro h; cases h
        · rintro ⟨h1, h2, h3, h4⟩
          have := h4 x (.inl rfl)
          simp [inD] at h1
          omega
      · rw [if_neg c1]
        by_cases c2 : x = (i : Int)
        · rw [if_pos c2]
          constructor
          · intro h; cases h
          · rintro ⟨_, h2, _⟩
            exact absurd (.inl c2.symm) h2
        · rw [if_neg c2, ih x (by omega)]
          constructor
          · rintro ⟨h1, h2, h3, h4⟩
            refine ⟨?_, ?_, ⟨h4, h3⟩, ?_⟩
            · rw [h1]
              simp [inD]
              omega
            · rintro (h | h)
              · exact c2 h.symm
              · exact h2 h
            · rintro n (rfl | h)
              · omega
              · have := h4 n h; omega
          · rintro ⟨h1, h2, ⟨h3, h5⟩, h4⟩
            rw [Bool.and_eq_true] at h1
            exact ⟨h1.2, fun h => h2 (.inr h), h5, h3⟩
    | _ =>
      constructor
      · intro h; cases h
      · rintro ⟨h1, _⟩
        simp [inD] at h1
theorem netRow_row (m : Int) (i : Nat) (ds : List PyData) : netRow m i (-1) ds = isRowD i m (.list ds) := by
  have h := netRow_iff m i ds (-1) (by omega)
  show _ = (if ds.all (inD 0 (m - 1)) = true then decide ((i : Int) ∉ ds.map numD) && decide ((ds.map numD).Pairwise (· < ·)) else false)
  by_cases c : ds.all (inD 0 (m - 1)) = true
  · rw [if_pos c]
    have nn : ∀ n ∈ ds.map numD, -1 < n := fun n hn => by
      obtain ⟨d, hd, rfl⟩ := List.mem_map.mp hn
      have := List.all_eq_true.mp c d hd
      cases d <;> simp [inD, numD] at this ⊢
      omega
    cases e : netRow m i (-1) ds with
    | true =>
      obtain ⟨_, h2, h3, _⟩ := h.mp e
      rw [decide_eq_true h2, decide_eq_true h3]
      rfl
    | false =>
      symm
      rw [Bool.and_eq_false_iff]
      by_cases c2 : (i : Int) ∈ ds.map numD
      · exact .inl (decide_eq_false (fun z => z c2))
      · refine .inr (decide_eq_false fun c3 => ?_)
        rw [h.mpr ⟨c, c2, c3, nn⟩] at e
        cases e
  · rw [if_neg c]
    cases e : netRow m i (-1) ds with
    | true => exact absurd (h.mp e).1 c
    | false => rfl
/-! ### values whose lists are not too long -/
def LenL (d : PyData) : Prop := ∀ es, d = .list es → es.length ≤ 4000
def RowsL (d : PyData) : Prop := ∀ ds, d = .list ds → ∀ e ∈ ds, LenL e
/-- shown in few signs, itself not too long -/
def Sw (K : PySem.W.Frag) (H : Hp) (n W : Nat) (v : V) : Prop := ∃ d, De K H v d ∧ Gd n W d ∧ LenL d
/-- shown in few signs, its items not too long -/
def Sr (K : PySem.W.Frag) (H : Hp) (n W : Nat) (v : V) : Prop := ∃ d, De K H v d ∧ Gd n W d ∧ RowsL d
section
variable {K : PySem.W.Frag} {H H' : Hp} {n W : Nat} {v : V}
theorem Gd.intB {i : Int} {k : Nat} (h : i.natAbs < 2 ^ k) (h0 : 0 < k) (hk : k ≤ 128) : Gd 0 k (.int i) := by
  have hl : i.natAbs.log2 < k := log2_small h0 h
  have h2 : i.natAbs < 10 ^ 39 := Nat.lt_of_lt_of_le h (Nat.le_trans (Nat.pow_le_pow_right (by decide) hk) (by decide +kernel))
  refine ⟨?_, ?_, Nat.le_refl _, ?_⟩
  · show decide (i.natAbs.log2 < 1920) = true
    exact decide_eq_true (by omega)
  · show decide ((PyData.shown (.int i)).length ≤ 40) = true
    refine decide_eq_true ?_
    have e := int_text_length_le10 (k := 39) (by decide) h2
    simp only [PyData.shown]
    rw [show ((toString i : String) : Str).length = (toString i).length from PySem.ofString_length _]
    omega
  · simp only [PyData.weight]
    split
    · omega
    · omega
theorem Sw.ex (h : Sw K H n W v) (e : Ex H H') : Sw K H' n W v := by
  obtain ⟨d, a, g⟩ := h
  exact ⟨d, De.ex e d v a, g⟩
theorem Sr.ex (h : Sr K H n W v) (e : Ex H H') : Sr K H' n W v := by
  obtain ⟨d, a, g⟩ := h
  exact ⟨d, De.ex e d v a, g⟩
theorem Sw.mono {n2 W2 : Nat} (h : Sw K H n W v) (a : n ≤ n2) (b : W ≤ W2) : Sw K H n2 W2 v := by
  obtain ⟨d, x, g, l⟩ := h
  exact ⟨d, x, g.mono a b, l⟩
theorem Sr.mono {n2 W2 : Nat} (h : Sr K H n W v) (a : n ≤ n2) (b : W ≤ W2) : Sr K H n2 W2 v := by
  obtain ⟨d, x, g, l⟩ := h
  exact ⟨d, x, g.mono a b, l⟩
theorem Sw.non : Sw K H n W .non := ⟨_, .non, Gd.non.mono (Nat.zero_le _) (Nat.zero_le _), fun _ e => by cases e⟩
theorem Sw.bl (b : Bool) : Sw K H n W (.bl b) := ⟨_, .bl b, (Gd.bl b).mono (Nat.zero_le _) (Nat.zero_le _), fun _ e => by cases e⟩
theorem Sw.int {i : Int} {k : Nat} (h : i.natAbs < 2 ^ k) (h0 : 0 < k) (hk : k ≤ 128) (hW : k ≤ W) : Sw K H n W (.int i) := ⟨_, .int i, (Gd.intB h h0 hk).mono (Nat.zero_le _) hW, fun _ e => by cases e⟩
theorem Sw.str {x : Str} (h : (PyData.str x).leavesShort 40 = true) (hW : x.cps.size ≤ W) : Sw K H n W (.str x) := ⟨_, .str x, (Gd.str h).mono (Nat.zero_le _) hW, fun _ e => by cases e⟩
theorem Sw.dic {a : Addr} (h : H a = some (.dK [])) (hn : 1 ≤ n) : Sw K H n W (.ref a) := ⟨_, .dic h, Gd.dic.mono hn (Nat.zero_le _), fun _ e => by cases e⟩
theorem sw_all {xs : List V} (h : ∀ x ∈ xs, Sw K H n W x) : ∃ ds, DeAll K H xs ds ∧ (∀ d ∈ ds, Gd n W d) ∧ (∀ d ∈ ds, LenL d) ∧ ds.length = xs.length := by
  induction xs with
  | nil => exact ⟨[], .nil, (fun _ m => nomatch m), (fun _ m => nomatch m), rfl⟩
  | cons x xs ih =>
    obtain ⟨d, a, g, q⟩ := h x List.mem_cons_self
    obtain ⟨ds, b, c, r, l⟩ := ih fun y m => h y (List.mem_cons_of_mem _ m)
    refine ⟨d :: ds, .cons a b, fun e m => ?_, fun e m => ?_, by simp [l]⟩
    · rcases List.mem_cons.mp m with rfl | m
      · exact g
      · exact c e m
    · rcases List.mem_cons.mp m with rfl | m
      · exact q
      · exact r e m
theorem Sw.lst {a : Addr} {xs : List V} {W2 n2 : Nat} (h : SqL K H a xs) (hx : ∀ x ∈ xs, Sw K H n W x) (hl : xs.length ≤ 4000) (hn : n + 1 ≤ n2) (hW : (W + 1) * xs.length ≤ W2) : Sw K H n2 W2 (.ref a) := by
  obtain ⟨ds, b, c, q, l⟩ := sw_all hx
  exact ⟨.list ds, .lst h b, (Gd.list c).mono hn (by rw [l]; exact hW), fun es e => by cases e; omega⟩
theorem Sr.lst {a : Addr} {xs : List V} {W2 n2 : Nat} (h : SqL K H a xs) (hx : ∀ x ∈ xs, Sw K H n W x) (hn : n + 1 ≤ n2) (hW : (W + 1) * xs.length ≤ W2) : Sr K H n2 W2 (.ref a) := by
  obtain ⟨ds, b, c, q, l⟩ := sw_all hx
  exact ⟨.list ds, .lst h b, (Gd.list c).mono hn (by rw [l]; exact hW), fun es e f m => by cases e; exact q f m⟩
theorem Sw.tup {a : Addr} {xs : List V} {W2 n2 : Nat} (h : SqT K H a xs) (hx : ∀ x ∈ xs, Sw K H n W x) (hn : n + 1 ≤ n2) (hW : (W + 1) * xs.length ≤ W2) : Sw K H n2 W2 (.ref a) := by
  obtain ⟨ds, b, c, q, l⟩ := sw_all hx
  exact ⟨.tuple ds, .tup h b, (Gd.tuple c).mono hn (by rw [l]; exact hW), fun es e => by cases e⟩
/-- what is no list is asked no more -/
theorem Sw.sr {d : PyData} (a : De K H v d) (g : Gd n W d) (h : ∀ es, d ≠ .list es) : Sr K H n W v := ⟨d, a, g, fun es e => absurd e (h es)⟩
theorem Sr.non : Sr K H n W .non := Sw.sr .non (Gd.non.mono (Nat.zero_le _) (Nat.zero_le _)) (fun _ e => by cases e)
theorem Sr.bl (b : Bool) : Sr K H n W (.bl b) := Sw.sr (.bl b) ((Gd.bl b).mono (Nat.zero_le _) (Nat.zero_le _)) (fun _ e => by cases e)
theorem Sr.int {i : Int} {k : Nat} (h : i.natAbs < 2 ^ k) (h0 : 0 < k) (hk : k ≤ 128) (hW : k ≤ W) : Sr K H n W (.int i) := Sw.sr (.int i) ((Gd.intB h h0 hk).mono (Nat.zero_le _) hW) (fun _ e => by cases e)
theorem Sr.str {x : Str} (h : (PyData.str x).leavesShort 40 = true) (hW : x.cps.size ≤ W) : Sr K H n W (.str x) := Sw.sr (.str x) ((Gd.str h).mono (Nat.zero_le _) hW) (fun _ e => by cases e)
theorem Sr.dic {a : Addr} (h : H a = some (.dK [])) (hn : 1 ≤ n) : Sr K H n W (.ref a) := Sw.sr (.dic h) (Gd.dic.mono hn (Nat.zero_le _)) (fun _ e => by cases e)
theorem Sr.tup {a : Addr} {xs : List V} {W2 n2 : Nat} (h : SqT K H a xs) (hx : ∀ x ∈ xs, Sw K H n W x) (hn : n + 1 ≤ n2) (hW : (W + 1) * xs.length ≤ W2) : Sr K H n2 W2 (.ref a) := by
  obtain ⟨ds, b, c, q, l⟩ := sw_all hx
  exact ⟨.tuple ds, .tup h b, (Gd.tuple c).mono hn (by rw [l]; exact hW), fun es e => by cases e⟩
theorem sw_ints {ns : List Int} {k : Nat} (h : ∀ i ∈ ns, i.natAbs < 2 ^ k) (h0 : 0 < k) (hk : k ≤ 128) (hW : k ≤ W) : ∀ x ∈ ns.map V.int, Sw K H n W x := fun x m => by
  obtain ⟨i, hi, rfl⟩ := List.mem_map.mp m
  exact .int (h i hi) h0 hk hW
/-- a list of numbers below 256 -/
theorem Sw.row {a : Addr} {ns : List Int} {n2 W2 : Nat} (h : SqL K H a (ns.map V.int)) (hb : ∀ i ∈ ns, i.natAbs < 256) (hl : ns.length ≤ 4000) (hn : 1 ≤ n2) (hW : 9 * ns.length ≤ W2) : Sw K H n2 W2 (.ref a) :=
  Sw.lst (n := 0) (W := 8) h (sw_ints (k := 8) hb (by omega) (by omega) (Nat.le_refl _)) (by rw [List.length_map]; exact hl) hn (by rw [List.length_map]; exact hW)
/-- the rows of a grid -/
theorem grid_sw {s : Addr} {G : Grid} (h : GridAt H s G) {m : Nat} (hr : ∀ i, (row G i).length ≤ m ∧ ∀ x ∈ row G i, x < 256) (hm : m ≤ 4000) : ∃ xs, H s = some (.lst xs) ∧ xs.length = G.length ∧ ∀ x ∈ xs, Sw K H 1 (9 * m) x := by
  obtain ⟨xs, h1, h2, h3⟩ := h.lst
  refine ⟨xs, h1, h2, fun x hx => ?_⟩
  obtain ⟨i, hi⟩ := List.getElem?_of_mem hx
  obtain ⟨_, p, rfl, hp⟩ := h3 i x hi
  have q := hr i
  refine Sw.row (.inl (.inl hp)) (fun n hn => ?_) (by rw [nz_len]; omega) (Nat.le_refl _) (by rw [nz_len]; exact Nat.mul_le_mul_left _ q.1)
  obtain ⟨y, hy, rfl⟩ := List.mem_map.mp hn
  have := q.2 y hy
  show ((y : Nat) : Int).natAbs < 256
  omega
end
end BC

set_option Elab.async false
set_option linter.all false
set_option maxRecDepth 100000
set_option maxHeartbeats 4000000
namespace BC
open PySem PySem.Spec PyProof.Rows L2 Evl RZ GenW
/-! ### for, in a generator's body -/
section
variable {prog : Program} {w : World} {A : Around} {R : GenEnd} {Y : Protocol} {n : Nat} {s₀ : Shared} {c : Code} {fs : List Frame} {s : Shared} {env : Env}
  {K : Flow → Sem PySem.Fin} {J : Value → Sem PySem.Fin} {gd : Bool → Bool} {lv : List Value → List Value}
theorem seg_ForG {target iter : Expr} {body : List Stmt} {pos : Pos}
    (h : wpAny (model prog w) (A.over c fs) (eval iter env) (fun x s1 => wpAny (model prog w) (A.over c fs) (pyIter x) (fun it s2 =>
      ∀ p l, Seg (model prog w) A R Y n s₀ (.forLoop target it body [] env) ((model prog w).den (.forLoop target it body [] env))
      (.ret (fun r => ((match r with | .ok f => (.pure f : Sem Flow) | .error e => .raise e).onRaise (cameBack env)).wrap K J gd lv) none (gd false) l c p [] :: fs) s2)
      (fun x s' => Seg (model prog w) A R Y n s₀ c (J x) fs s') s1) (fun x s' => Seg (model prog w) A R Y n s₀ c (J x) fs s') s)
    (hs : ∀ x, foldedSetIterable iter env x = pure x := by intro _; rfl) :
    Seg (model prog w) A R Y n s₀ c ((exec (.For target iter body [] pos) env).wrap K J gd lv) fs s := by
  rw [exec_For]
  refine seg_bind_wrap (wpAny_standAt ?_)
  refine seg_bind_wrap (wpAny_mono h (fun x s1 h1 => ?_) fun _ _ q => q)
  refine seg_bind_wrap (wpAny_of_eq (hs x) ?_)
  refine seg_bind_wrap (wpAny_standAt ?_)
  refine seg_bind_wrap (wpAny_holding (wpAny_mono h1 (fun it s2 h2 => ?_) fun _ _ q => q))
  exact seg_call fun p => h2 p _
abbrev NotedSeg (M : Model) (A : Around) (R : GenEnd) (Y : Protocol) (n : Nat) (s₀ : Shared) (c : Code) (fs : List Frame) (env : Env) (x : Value) (s : Shared) : Prop :=
  Seg M A R Y n s₀ c ((do noteFrame x env; theTreesLotGoes x : Sem Unit).wrap (fun _ => .raise x) .raise id id) fs s
theorem seg_forLoop {target : Expr} {it : Value} {body : List Stmt}
    (h : wpAny (model prog w) (A.over (.forLoop target it body [] env) fs) (pyNext it) (fun r s1 => match r with
      | none => Seg (model prog w) A R Y n s₀ (.forLoop target it body [] env) (.pure (.again (.block [] env))) fs s1
      | some v => wpAny (model prog w) (A.over (.forLoop target it body [] env) fs) (letOwnedTupleGo target it v) (fun _ s2 =>
          wpAny (model prog w) (A.over (.forLoop target it body [] env) fs) (assign target env v) (fun _ s3 =>
            Seg (model prog w) A R Y n s₀ (.forLoop target it body [] env) ((execs body env).wrap (fun f => match f with
              | .next | .cont => .pure (.again (.forLoop target it body [] env))
              | .brk => .pure (.done .next)
              | .ret v => .pure (.done (.ret v))) (fun e => (do noteFrame e env; theTreesLotGoes e : Sem Unit).wrap (fun _ => .raise e) .raise id id) id id) fs s3)
            (NotedSeg (model prog w) A R Y n s₀ (.forLoop target it body [] env) fs env) s2)
          (NotedSeg (model prog w) A R Y n s₀ (.forLoop target it body [] env) fs env) s1)
      (NotedSeg (model prog w) A R Y n s₀ (.forLoop target it body [] env) fs env) s) :
    Seg (model prog w) A R Y n s₀ (.forLoop target it body [] env) ((model prog w).den (.forLoop target it body [] env)) fs s := by
  show Seg _ A R Y n s₀ _ ((forTurn target it body [] env).onRaise (fun x => do noteFrame x env; theTreesLotGoes x)) fs s
  unfold forTurn
  rw [Sem.onRaise_eq_wrap]
  have ej : ∀ x s', NotedSeg (model prog w) A R Y n s₀ (.forLoop target it body [] env) fs env x s' → Seg (model prog w) A R Y n s₀ (.forLoop target it body [] env) ((do noteFrame x env; theTreesLotGoes x : Sem Unit).bind (fun _ => .raise x)) fs s' := fun x s' q => by
    rw [Sem.bind_eq_wrap]; exact q
  refine seg_bind_wrap (wpAny_standAt ?_)
  refine seg_bind_wrap (wpAny_onRaise (wpAny_mono h (fun r s1 h1 => ?_) fun x s' hx => wpAny_standAt ?_))
  · cases r with
    | none => exact h1
    | some v =>
      refine seg_bind_wrap (wpAny_mono h1 (fun _ s2 h2 => ?_) fun x s' hx => ?_)
      · refine seg_bind_wrap (wpAny_mono h2 (fun _ s3 h3 => ?_) fun x s' hx => ?_)
        · rw [Sem.bind_eq_wrap', Sem.wrap_wrap]
          rw [Sem.wrap_congr (execs body env) _ _ (K' := fun f => match f with
            | .next | .cont => .pure (.again (.forLoop target it body [] env))
            | .brk => .pure (.done .next)
            | .ret v => .pure (.done (.ret v))) (H' := (fun e => (do noteFrame e env; theTreesLotGoes e : Sem Unit).wrap (fun _ => .raise e) .raise id id))
            (fun f => by cases f <;> rfl) (fun e => by first | exact Sem.bind_eq_wrap _ _ | (show (do noteFrame e env; theTreesLotGoes e : Sem Unit).bind (fun _ => .raise e) = _; rw [Sem.bind_eq_wrap]))]
          exact h3
        · exact ej x s' hx
      · exact ej x s' hx
  · exact ej x s' hx
theorem seg_blockNil (h : Seg (model prog w) A R Y n s₀ (.block [] env) (.pure (.done .next)) fs s) :
    Seg (model prog w) A R Y n s₀ c (.pure (.again (.block [] env))) fs s := by
  refine seg_again rfl ?_
  show Seg _ A R Y n s₀ _ (do return Fin.done (← (execs [] env).onRaise (fun x => do noteFrame x env; theTreesLotGoes x))) fs s
  exact h
end
section
variable {X : Cx} {tg iter : Expr} {body : List Stmt} {wi : TI} {g : TG} {tb : TGn} {pos : Pos}
/-- W: the invariant by the turn, a measure and what is out; N: what the body is to reach -/
def tGFor (wi : TI) (g : TG) (tb : TGn) : TGn := fun D ys σ H => wi σ H fun J H1 => ∃ W : Nat → Nat → List V → L2.St → Hp → Prop, (∃ m, W 0 m ys σ H1) ∧ ∀ i m ys σ H, W i m ys σ H →
  (J.stop i H ∧ D.nx ys σ H) ∨ (J.go i H ∧ ∃ N : List V → L2.St → Hp → Prop, (∀ ys' σ' H', N ys' σ' H' → ∃ m', m' < m ∧ W (i + 1) m' ys' σ' H') ∧ ∀ x H', J.yld i H x H' → g x σ H' fun σ2 H2 => tb { D with nx := N, ct := N, bk := D.nx } ys σ2 H2)
theorem gs_for (hp : PassesOwn (model X.prog X.w) X.A X.env X.xe) (hc : X.calm = true) (hi : PI X tg iter wi) (hg : PG X tg g) (hb : GSs X body tb)
    (hs : ∀ x, foldedSetIterable iter X.env x = pure x := by intro _; rfl) : GS X (.For tg iter body [] pos) (tGFor wi g tb) := by
  refine ⟨fun A S ip R n ys s₀ c fs K J gd lv s σ H D gc hn k hI ht => ?_⟩
  obtain ⟨acc0, cc0, r0, I0⟩ := hI
  refine seg_ForG ?_ hs
  rw [gc.over]
  refine wpAny_mono (hi.run ((S, lstObj acc0 cc0) :: ip) s σ H _ I0 ht) (fun v s1 h1 => wpAny_mono h1 (fun itv s2 h2 p l => ?_) fun x s' hx => k.exc n s₀ x s' hx) fun x s' hx => k.exc n s₀ x s' hx
  obtain ⟨it, fp, tn, J', H2, e, I2, T, st2, f2, W, ⟨m0, w0⟩, turn⟩ := h2
  subst e
  have gl := fun (kk : Result → Sem PySem.Fin) => gc_loop (k := kk) (c' := .forLoop tg (.ref it) body [] X.env) (l := l) (kp := []) (p := p) gc rfl rfl
  have stat : ∀ {H' : Hp} {acc : Array Value} {cc : Nat}, (∀ b ∈ fp, H' b = none) → ∀ b ∈ fp, FpOk X ((S, lstObj acc cc) :: ip) H' b := fun {H' acc cc} hn b hb => by
    obtain ⟨f0, f1, f2', f3, f4, f5⟩ := f2 b hb
    refine ⟨hn b hb, f1, f2', f3, f4, fun q hq => ?_⟩
    rcases List.mem_append.mp hq with z | z
    · exact f5 q (List.mem_append_left _ z)
    · rcases List.mem_cons.mp z with z | z
      · rw [z]; exact f5 (S, lstObj acc0 cc0) (List.mem_append_right _ List.mem_cons_self)
      · exact f5 q (List.mem_append_right _ (List.mem_cons_of_mem _ z))
  have ee : ∀ (n : Nat) (s₀ : Shared) (x : Value) (s' : Shared), X.xe x s' → NotedSeg (model X.prog X.w) A R (GY X S) n s₀ (.forLoop tg (.ref it) body [] X.env)
      (.ret (fun r => ((match r with | .ok f => (.pure f : Sem Flow) | .error e => .raise e).onRaise (cameBack X.env)).wrap K J gd lv) none (gd false) l c p [] :: fs) X.env x s' := fun n s₀ x s' hx => by
    refine seg_wrap ?_
    rw [(gl _).over]
    refine wpAny_bind (wpAny_mono (hp x s' hx) (fun _ s'' hcb => wpAny_theTreesLotGoes ?_) fun y s'' hcb => ?_)
    · exact seg_leaf (.error x) (seg_cameBack gc k hcb)
    · exact seg_leaf (.error y) (seg_cameBack gc k hcb)
  have unp : ∀ {pl : List (Addr × Obj)} {ys : List V} {σ : L2.St} {H : Hp} {s : Shared}, GI X S (ip ++ pl) ys σ H s → GI X S ip ys σ H s := fun {pl ys σ H s} G => by
    obtain ⟨acc, cc, r, I⟩ := G
    exact ⟨acc, cc, r, Inv.unpinned (pins := (S, lstObj acc cc) :: ip) (pl := pl) I⟩
  have loop : ∀ (m n i : Nat) (ys : List V) (s₀ s : Shared) (σ : L2.St) (H : Hp), n + ys.length = sizeLine → W i m ys σ H → GI X S ip ys σ H s → tn i s.heap → (∀ b ∈ fp, H b = none) →
      Seg (model X.prog X.w) A R (GY X S) n s₀ (.forLoop tg (.ref it) body [] X.env) ((model X.prog X.w).den (.forLoop tg (.ref it) body [] X.env))
        (.ret (fun r => ((match r with | .ok f => (.pure f : Sem Flow) | .error e => .raise e).onRaise (cameBack X.env)).wrap K J gd lv) none (gd false) l c p [] :: fs) s := by
    intro m
    induction m using Nat.strongRecOn with
    | ind m ih =>
      intro n i ys s₀ s σ H hn w hI st fr
      refine seg_forLoop ?_
      rw [(gl _).over]
      obtain ⟨acc, cc, r, I⟩ := hI
      rcases turn i m ys σ H w with ⟨stop, qn⟩ | ⟨go, N, hN, step⟩
      · refine wpAny_mono (T.done X rfl rfl rfl hc i ((S, lstObj acc cc) :: ip) s σ H X.xe I (stat fr) st stop) (fun r' s4 h4 => ?_) fun x s' hx => ee n s₀ x s' hx
        obtain ⟨hr, I4⟩ := h4
        subst hr
        exact seg_blockNil (seg_leaf (.ok .next) (k.ok n ys s₀ s4 .next hn ⟨σ, H, ⟨acc, cc, r, I4⟩, qn⟩))
      · refine wpAny_mono (T.item X rfl rfl rfl hc i ((S, lstObj acc cc) :: ip) s σ H X.xe I (stat fr) st go) (fun r' s4 h4 => ?_) fun x s' hx => ee n s₀ x s' hx
        obtain ⟨u, hr, h4⟩ := h4
        subst hr
        refine wpAny_mono h4 (fun _ s5 h5 => ?_) fun x s' hx => ee n s₀ x s' hx
        obtain ⟨x, H5, I5, r5, y5, st5, fr5⟩ := h5
        have I5' : Inv X ((S, lstObj acc cc) :: (ip ++ pinsAt fp s5.heap)) σ H5 s5 := I5.pinned (stat fr5) (T.obj _ _ st5)
        refine wpAny_mono (hg.run _ s5 σ H5 x u _ I5' r5 (step x H5 y5)) (fun _ s6 h6 => ?_) fun x s' hx => ee n s₀ x s' hx
        obtain ⟨σ6, H6, I6, q6⟩ := h6
        have gi : ∀ q ∈ ip ++ pinsAt fp s5.heap, q.1 ≠ S := fun q hq => by
          rcases List.mem_append.mp hq with z | z
          · exact gc.ip q z
          · exact fun e => (f2 q.1 (of_pinsAt z).1).2.2.2.2.2 (S, lstObj acc0 cc0) (List.mem_append_right _ List.mem_cons_self) e.symm
        refine hb.run A S (ip ++ pinsAt fp s5.heap) R n ys s₀ _ _ _ _ id id s6 σ6 H6 { D with nx := N, ct := N, bk := D.nx } { gl _ with ip := gi } hn ⟨fun n' ys' s₀' s7 f hn' hs => ?_, fun n' s₀' x s3 hx => ee n' s₀' x s3 hx⟩ ⟨acc, cc, r, I6⟩ q6
        have again : ∀ {σ7 : L2.St} {H7 : Hp}, GI X S (ip ++ pinsAt fp s5.heap) ys' σ7 H7 s7 → N ys' σ7 H7 → Seg (model X.prog X.w) A R (GY X S) n' s₀' (.forLoop tg (.ref it) body [] X.env) (.pure (.again (.forLoop tg (.ref it) body [] X.env)))
            (.ret (fun r => ((match r with | .ok f => (.pure f : Sem Flow) | .error e => .raise e).onRaise (cameBack X.env)).wrap K J gd lv) none (gd false) l c p [] :: fs) s7 := fun {σ7 H7} G7 n7 => by
          obtain ⟨m', hm, w7⟩ := hN ys' σ7 H7 n7
          have G8 := unp G7
          obtain ⟨acc7, cc7, r7, I7⟩ := G7
          refine seg_again rfl (ih m' hm n' (i + 1) ys' s₀' s7 σ7 H7 hn' w7 G8 (T.keep _ _ _ st5 fun b hb o e => ?_) fun b hb => ?_)
          · exact (I7.pin (b, o) (List.mem_append_right _ (List.mem_cons_of_mem _ (List.mem_append_right _ (mem_pinsAt hb e))))).1
          · obtain ⟨o, e, d⟩ := T.obj _ _ st5 b hb
            exact (I7.pin (b, o) (List.mem_append_right _ (List.mem_cons_of_mem _ (List.mem_append_right _ (mem_pinsAt hb e))))).2.1
        cases f with
        | next => obtain ⟨σ7, H7, G7, n7⟩ := hs; exact again G7 n7
        | cont => obtain ⟨σ7, H7, G7, n7⟩ := hs; exact again G7 n7
        | brk =>
          obtain ⟨σ7, H7, G7, n7⟩ := hs
          exact seg_leaf (.ok .next) (k.ok n' ys' s₀' s7 .next hn' ⟨σ7, H7, unp G7, n7⟩)
        | ret v =>
          obtain ⟨x7, σ7, H7, G7, r7, n7⟩ := hs
          exact seg_leaf (.ok (.ret v)) (k.ok n' ys' s₀' s7 (.ret v) hn' ⟨x7, σ7, H7, unp G7, r7, n7⟩)
  exact loop m0 n 0 ys s₀ s2 σ H2 (by assumption) w0 ⟨acc0, cc0, r0, I2⟩ st2 fun b hb => (f2 b hb).1
end
/-! ### a generator def of the text -/
theorem Fun.gok {P : Program} {w : World} {K : PySem.W.Frag} {mg : Str → Option Value} {base : Heap} {x qual : Str} {st : Stmt} {f : Addr} {fd : FuncData} {N ps : List Str} {k : Nat} {sp : SpG} (F : Fun K x qual st f fd) (S : GScope N ps (defScope st)) (len : ∀ vs H Q E, sp vs H Q E → vs.length = ps.length)
    (hbody : ∀ (cdv : Value) (A : Around) (outer : List Env) (s : Shared) (H : Hp) (vs : List V) (Q : List V → Hp → Prop) (E : XK) (pn : List (Addr × Obj)), Room k (A.deeper (envOfC qual (defScope st) s.heap.objs.size f cdv)) → sp vs H Q E →
      ∃ t, GSs (gcxOf P w K mg base N qual (defScope st) f cdv A outer s H E pn) (defBody st) t ∧ t { nx := fun ys _ H' => Q ys H', rt := fun ys v H' => v = .non ∧ Q ys H' } [] (start N vs) H) : GFn P w K mg base (k + 1) f fd ps sp := by
  obtain ⟨oc, od, kV, doc, pm, an, cdv, ct, osl, rfl, lk, hcd⟩ := F.ex
  exact gfn_of lk hcd S len fun A outer s H vs Q E pn hr hsp => hbody cdv A outer s H vs Q E pn hr hsp
theorem noStop0 {K : PySem.W.Frag} : NoStop K E0 := fun _ _ _ h => h.elim
theorem passX0 {P : Program} {w : World} {X : Cx} : Passes (L2.CX P w) X E0 := fun _ _ _ _ _ _ _ h => by
  obtain ⟨_, _, _, _, _, _, _, _, _, _, _, _, hW⟩ := h
  exact hW.elim
theorem pe_listG0 {X : Cx} {k : Nat} {e : Expr} {tg : TGen} {nm : Str} {p pos : Pos} (h : PGen X k e tg E0) (hr : Room (k + 3) X.A) (hg : Gl X nm) (hmg : X.mg nm = none) (hv : bootBuiltins nm = some (.type "list")) (hnm : nm ≠ "__name__" := by decide) (hdb : (nm == ("__debug__" : Str)) = false := by decide)
    (he : starEach [e] X.env = (false, eval e X.env) :: starEach [] X.env := by rfl) : PE X (.Call (.Name nm p) [e] [] pos) (tListG tg) := pe_listG h passX0 noStop0 hr hg hmg hv hnm hdb he
/-! ### readings -/
def LoopGG (J : It) (g : TG) (tb : TGn) (D : GEnds) (ys : List V) (σ : L2.St) (H1 : Hp) : Prop := ∃ W : Nat → Nat → List V → L2.St → Hp → Prop, (∃ m, W 0 m ys σ H1) ∧ ∀ i m ys σ H, W i m ys σ H →
  (J.stop i H ∧ D.nx ys σ H) ∨ (J.go i H ∧ ∃ N : List V → L2.St → Hp → Prop, (∀ ys' σ' H', N ys' σ' H' → ∃ m', m' < m ∧ W (i + 1) m' ys' σ' H') ∧ ∀ x H', J.yld i H x H' → g x σ H' fun σ2 H2 => tb { D with nx := N, ct := N, bk := D.nx } ys σ2 H2)
section
variable {ys : List V} {σ : L2.St} {H : Hp} {Q : VK} {D : GEnds}
theorem x_gfor {wi : TI} {g : TG} {tb : TGn} : tGFor wi g tb D ys σ H = wi σ H fun J H1 => LoopGG J g tb D ys σ H1 := rfl
theorem x_gplain {t : TS} : tPlain t D ys σ H = t { nx := D.nx ys, rt := D.rt ys, bk := D.bk ys, ct := D.ct ys } σ H := rfl
theorem x_gthen {t u : TGn} : tGThen t u D ys σ H = t { D with nx := fun ys' σ' H' => u D ys' σ' H' } ys σ H := rfl
theorem x_g0 : tG0 D ys σ H = D.nx ys σ H := rfl
theorem x_gyield {te : TE} : tGYield te D ys σ H = (ys.length < sizeLine ∧ te σ H fun x H1 => D.nx (ys ++ [x]) σ H1) := rfl
theorem x_gwhile {c : TT} {tb : TGn} : tGWhile c tb D ys σ H = ∃ W : Nat → List V → L2.St → Hp → Prop, (∃ m, W m ys σ H) ∧ ∀ m ys σ H, W m ys σ H →
  c σ H fun b H1 => if b = true then ∃ N : List V → L2.St → Hp → Prop, (∀ ys' σ' H', N ys' σ' H' → ∃ m', m' < m ∧ W m' ys' σ' H') ∧ tb { D with nx := N, ct := N, bk := D.nx } ys σ H1 else D.nx ys σ H1 := rfl
theorem x_listG {tg : TGen} : tListG tg σ H Q = tg σ H fun out H2 => ∀ p, H2 p = none → Q (.ref p) (upd H2 p (.lst out)) := rfl
theorem x_callG {sp : SpG} {dvs : List V} {E : XK} {t : TA} {cont : List V → Hp → Prop} : tCallG sp dvs E t σ H cont = t σ H fun vs H1 => sp (vs ++ dvs) H1 cont E := rfl
end
theorem lgg_list {K : PySem.W.Frag} {a : Addr} {xs : List V} {g : TG} {tb : TGn} {D : GEnds} {ys : List V} {σ : L2.St} {H : Hp} (Pv : Nat → List V → L2.St → Hp → Prop) (h0 : Pv 0 ys σ H) (hl : ∀ i ys σ H, i ≤ xs.length → Pv i ys σ H → SqL K H a xs)
    (hs : ∀ i v ys σ H, xs[i]? = some v → Pv i ys σ H → g v σ H fun σ2 H2 => tb { D with nx := Pv (i + 1), ct := Pv (i + 1), bk := D.nx } ys σ2 H2) (hd : ∀ ys σ H, Pv xs.length ys σ H → D.nx ys σ H) :
    LoopGG (Itl K a) g tb D ys σ H := by
  refine ⟨fun i m ys σ H => m = xs.length - i ∧ i ≤ xs.length ∧ Pv i ys σ H, ⟨xs.length, by simp, Nat.zero_le _, h0⟩, ?_⟩
  rintro i m ys σ H ⟨rfl, hi, p⟩
  have q := hl i ys σ H hi p
  by_cases hlt : i < xs.length
  · refine .inr ⟨⟨xs, xs[i], q, by simp [hlt]⟩, Pv (i + 1), fun ys' σ' H' p' => ⟨xs.length - (i + 1), by omega, rfl, hlt, p'⟩, fun x H' y => ?_⟩
    obtain ⟨e, y⟩ := y
    subst e
    exact hs i x ys σ _ (y xs q) p
  · have e : i = xs.length := by omega
    subst e
    exact .inl ⟨⟨xs, q, Nat.le_refl _⟩, hd ys σ H p⟩
end BC

set_option Elab.async false
set_option linter.all false
set_option maxRecDepth 100000
set_option maxHeartbeats 4000000
/-! two lists of visits with one effect do the same to every trail -/
namespace EF
open PySem PySem.Spec PyProof.Rows L2 BC TR
theorem nx_of_exs {r1 r2 : List Int} (p1 : Pg 40 r1) (p2 : Pg 40 r2) (h : exs r1 = exs r2) (x : Int) : nx r1 x = nx r2 x := by
  cases c : nx r1 x with
  | some y =>
    have := (mem_exs p1).mpr c
    rw [h] at this
    exact ((mem_exs p2).mp this).symm
  | none =>
    cases d : nx r2 x with
    | none => rfl
    | some y =>
      have := (mem_exs p2).mpr d
      rw [← h] at this
      rw [(mem_exs p1).mp this] at c
      cases c
theorem ch_congr {r1 r2 : List Int} (h : ∀ x, nx r1 x = nx r2 x) : ∀ (n : Nat) {p : Int}, (ch r1 p).length ≤ n → p ∈ r1 → ch r1 p = ch r2 p := by
  intro n
  induction n with
  | zero =>
    intro p hl hp
    obtain ⟨y, hy⟩ := nx_mem hp
    obtain ⟨t, ht⟩ := ch_hd hy
    rw [ht] at hl
    simp at hl
  | succ n ih =>
    intro p hl hp
    obtain ⟨y, hy⟩ := nx_mem hp
    have hy2 := hy
    rw [h] at hy2
    obtain ⟨a1, a2⟩ := ch_next hy
    obtain ⟨b1, b2⟩ := ch_next hy2
    by_cases e : y = p
    · rw [a1 e, b1 e]
    · rw [a2 e, b2 e]
      congr 1
      refine ih ?_ (mem_nx hy).2
      have := a2 e
      rw [this, List.length_cons] at hl
      omega
theorem ef_congr {r1 r2 : List Int} (hd : r1.head? = r2.head?) (h : ∀ x, nx r1 x = nx r2 x) : ∀ P : List Int, ef r1 P = ef r2 P := by
  have hm : ∀ x, x ∈ r1 ↔ x ∈ r2 := fun x => by
    constructor
    · intro m
      obtain ⟨y, hy⟩ := nx_mem m
      rw [h] at hy
      exact (mem_nx hy).1
    · intro m
      obtain ⟨y, hy⟩ := nx_mem m
      rw [← h] at hy
      exact (mem_nx hy).1
  intro P
  induction P with
  | nil =>
    cases r1 with
    | nil => cases r2 with
      | nil => rfl
      | cons b s => cases hd
    | cons a r => cases r2 with
      | nil => cases hd
      | cons b s =>
        have e : a = b := Option.some.inj hd
        subst e
        exact ch_congr h _ (Nat.le_refl _) List.mem_cons_self
  | cons p P ih =>
    by_cases m : p ∈ r1
    · rw [ef_in m, ef_in ((hm p).mp m)]
      exact ch_congr h _ (Nat.le_refl _) m
    · rw [ef_out m, ef_out fun q => m ((hm p).mpr q), ih]
theorem ef_app (a b P : List Int) : ef (a ++ b) P = ef b (ef a P) := by
  rw [ef_vis, ef_vis, ef_vis, List.foldl_append]
theorem ef_ok {row P : List Int} (hn : P.Nodup) (hp : Pg 40 P) (hr : Pg 40 row) : (ef row P).Nodup ∧ Pg 40 (ef row P) := by
  have := play_ok row hn hp hr
  rw [play_ef] at this
  exact this
end EF

set_option Elab.async false
set_option linter.all false
set_option maxRecDepth 100000
set_option maxHeartbeats 4000000
namespace LW
open PySem PySem.Spec PyProof.Rows L2 BC Evl TR EF L2.DX
def topS (i : Nat) : Stmt := PySem.Challenge.pw_breadcrumbs_k43_whole_effects_trails_and.main.body.getD i (.Pass ⟨0, 0, 0, 0⟩)
abbrev s_is_integer : Stmt := topS 7
theorem sc_is_integer : FnScope ["value", "least", "most"] ["value", "least", "most"] (defScope s_is_integer) := ⟨rfl, rfl, rfl, by decide +kernel, rfl, by decide +kernel, by decide +kernel⟩
abbrev s_check_number : Stmt := topS 8
theorem sc_check_number : FnScope ["value", "least", "most"] ["value", "least", "most"] (defScope s_check_number) := ⟨rfl, rfl, rfl, by decide +kernel, rfl, by decide +kernel, by decide +kernel⟩
abbrev s_is_page : Stmt := topS 13
theorem sc_is_page : FnScope ["value"] ["value"] (defScope s_is_page) := ⟨rfl, rfl, rfl, by decide +kernel, rfl, by decide +kernel, by decide +kernel⟩
abbrev s_is_visits : Stmt := topS 14
theorem sc_is_visits : FnScope ["value", "page"] ["value"] (defScope s_is_visits) := ⟨rfl, rfl, rfl, by decide +kernel, rfl, by decide +kernel, by decide +kernel⟩
abbrev s_is_trail : Stmt := topS 15
theorem sc_is_trail : FnScope ["value", "page"] ["value"] (defScope s_is_trail) := ⟨rfl, rfl, rfl, by decide +kernel, rfl, by decide +kernel, by decide +kernel⟩
abbrev s_check_visits : Stmt := topS 16
theorem sc_check_visits : FnScope ["visits"] ["visits"] (defScope s_check_visits) := ⟨rfl, rfl, rfl, by decide +kernel, rfl, by decide +kernel, by decide +kernel⟩
abbrev s_check_trail : Stmt := topS 17
theorem sc_check_trail : FnScope ["trail"] ["trail"] (defScope s_check_trail) := ⟨rfl, rfl, rfl, by decide +kernel, rfl, by decide +kernel, by decide +kernel⟩
abbrev s_visited : Stmt := topS 18
theorem sc_visited : FnScope ["trail", "page"] ["trail", "page"] (defScope s_visited) := ⟨rfl, rfl, rfl, by decide +kernel, rfl, by decide +kernel, by decide +kernel⟩
abbrev s_trail_after : Stmt := topS 19
theorem sc_trail_after : FnScope ["visits", "start", "page", "found"] ["visits", "start"] (defScope s_trail_after) := ⟨rfl, rfl, rfl, by decide +kernel, rfl, by decide +kernel, by decide +kernel⟩
abbrev s_trails_along : Stmt := topS 20
theorem sc_trails_along : GScope ["visits", "trail", "page"] ["visits"] (defScope s_trails_along) := ⟨rfl, rfl, rfl, by decide +kernel, rfl, by decide +kernel, by decide +kernel⟩
abbrev s_visits_of : Stmt := topS 21
theorem sc_visits_of : FnScope ["trails", "trail", "found", "before"] ["trails"] (defScope s_visits_of) := ⟨rfl, rfl, rfl, by decide +kernel, rfl, by decide +kernel, by decide +kernel⟩
abbrev s_exits_in : Stmt := topS 24
theorem sc_exits_in : FnScope ["visits", "found", "page", "later"] ["visits"] (defScope s_exits_in) := ⟨rfl, rfl, rfl, by decide +kernel, rfl, by decide +kernel, by decide +kernel⟩
abbrev s_is_pair : Stmt := topS 25
theorem sc_is_pair : FnScope ["value"] ["value"] (defScope s_is_pair) := ⟨rfl, rfl, rfl, by decide +kernel, rfl, by decide +kernel, by decide +kernel⟩
abbrev s_leads_to_root : Stmt := topS 26
theorem sc_leads_to_root : FnScope ["exit_of", "page", "root", "step"] ["exit_of", "page", "root"] (defScope s_leads_to_root) := ⟨rfl, rfl, rfl, by decide +kernel, rfl, by decide +kernel, by decide +kernel⟩
abbrev s_are_exits : Stmt := topS 27
theorem sc_are_exits : FnScope ["value", "pages", "roots", "exit_of", "page", "later", "pair", "other"] ["value"] (defScope s_are_exits) := ⟨rfl, rfl, rfl, by decide +kernel, rfl, by decide +kernel, by decide +kernel⟩
abbrev s_check_effect : Stmt := topS 29
theorem sc_check_effect : FnScope ["value"] ["value"] (defScope s_check_effect) := ⟨rfl, rfl, rfl, by decide +kernel, rfl, by decide +kernel, by decide +kernel⟩
abbrev s_effect_in : Stmt := topS 30
theorem sc_effect_in : FnScope ["visits"] ["visits"] (defScope s_effect_in) := ⟨rfl, rfl, rfl, by decide +kernel, rfl, by decide +kernel, by decide +kernel⟩
abbrev s_effect_of : Stmt := topS 31
theorem sc_effect_of : FnScope ["visits"] ["visits"] (defScope s_effect_of) := ⟨rfl, rfl, rfl, by decide +kernel, rfl, by decide +kernel, by decide +kernel⟩
abbrev s_same_effect : Stmt := topS 32
theorem sc_same_effect : FnScope ["one", "two"] ["one", "two"] (defScope s_same_effect) := ⟨rfl, rfl, rfl, by decide +kernel, rfl, by decide +kernel, by decide +kernel⟩
abbrev s_parting_trail : Stmt := topS 33
theorem sc_parting_trail : FnScope ["one", "two", "pages", "trail", "effect", "other", "page", "behind"] ["one", "two"] (defScope s_parting_trail) := ⟨rfl, rfl, rfl, by decide +kernel, rfl, by decide +kernel, by decide +kernel⟩
abbrev s_factorial : Stmt := topS 35
theorem sc_factorial : FnScope ["many", "found", "factor"] ["many"] (defScope s_factorial) := ⟨rfl, rfl, rfl, by decide +kernel, rfl, by decide +kernel, by decide +kernel⟩
abbrev s_free_leaves : Stmt := topS 36
theorem sc_free_leaves : FnScope ["effect", "page"] ["effect"] (defScope s_free_leaves) := ⟨rfl, rfl, rfl, by decide +kernel, rfl, by decide +kernel, by decide +kernel⟩
abbrev s_fewest_in : Stmt := topS 37
theorem sc_fewest_in : FnScope ["effect"] ["effect"] (defScope s_fewest_in) := ⟨rfl, rfl, rfl, by decide +kernel, rfl, by decide +kernel, by decide +kernel⟩
abbrev s_number_of_lists : Stmt := topS 38
theorem sc_number_of_lists : FnScope ["effect"] ["effect"] (defScope s_number_of_lists) := ⟨rfl, rfl, rfl, by decide +kernel, rfl, by decide +kernel, by decide +kernel⟩
abbrev s_list_with : Stmt := topS 39
theorem sc_list_with : FnScope ["effect", "order", "exit_of", "open_pages", "is_leaf", "found", "leaf", "page", "later"] ["effect", "order"] (defScope s_list_with) := ⟨rfl, rfl, rfl, by decide +kernel, rfl, by decide +kernel, by decide +kernel⟩
abbrev s_fewest_visits : Stmt := topS 40
theorem sc_fewest_visits : FnScope ["effect"] ["effect"] (defScope s_fewest_visits) := ⟨rfl, rfl, rfl, by decide +kernel, rfl, by decide +kernel, by decide +kernel⟩
abbrev s_count_shortest : Stmt := topS 41
theorem sc_count_shortest : FnScope ["effect"] ["effect"] (defScope s_count_shortest) := ⟨rfl, rfl, rfl, by decide +kernel, rfl, by decide +kernel, by decide +kernel⟩
abbrev s_nth_shortest : Stmt := topS 42
theorem sc_nth_shortest : FnScope ["effect", "index", "left", "order", "rest", "place"] ["effect", "index"] (defScope s_nth_shortest) := ⟨rfl, rfl, rfl, by decide +kernel, rfl, by decide +kernel, by decide +kernel⟩
abbrev s_law_bag : Stmt := topS 44
theorem sc_law_bag : FnScope ["_law_cell", "_law_turn", "_law_size"] ["_law_cell", "_law_turn"] (defScope s_law_bag) := ⟨rfl, rfl, rfl, by decide +kernel, rfl, by decide +kernel, by decide +kernel⟩
abbrev s_law_draw : Stmt := topS 45
theorem sc_law_draw : FnScope ["_law_bag_here", "_law_most", "_law_mixed", "_law_found"] ["_law_bag_here", "_law_most"] (defScope s_law_draw) := ⟨rfl, rfl, rfl, by decide +kernel, rfl, by decide +kernel, by decide +kernel⟩
abbrev s_law_cells : Stmt := topS 46
theorem sc_law_cells : FnScope ["_law_script"] ["_law_script"] (defScope s_law_cells) := ⟨rfl, rfl, rfl, by decide +kernel, rfl, by decide +kernel, by decide +kernel⟩
abbrev s_law_names : Stmt := topS 47
theorem sc_law_names : FnScope ["_law_bag_here", "_law_most", "_law_begin", "_law_size", "_law_spot"] ["_law_bag_here", "_law_most"] (defScope s_law_names) := ⟨rfl, rfl, rfl, by decide +kernel, rfl, by decide +kernel, by decide +kernel⟩
abbrev s_law_row : Stmt := topS 48
theorem sc_law_row : FnScope ["_law_bag_here", "_law_names_here", "_law_most", "_law_turn", "_law_style", "_law_size", "_law_found", "_law_spot"] ["_law_bag_here", "_law_names_here", "_law_most"] (defScope s_law_row) := ⟨rfl, rfl, rfl, by decide +kernel, rfl, by decide +kernel, by decide +kernel⟩
abbrev s_law_right : Stmt := topS 49
theorem sc_law_right : FnScope ["_law_script", "_law_bag_here", "_law_names_here", "_law_row_here", "_law_made", "_law_cut", "_law_left", "_law_mixed", "_law_path", "_law_short", "_law_stages", "_law_front", "_law_behind", "_law_turn"] ["_law_script", "_law_bag_here"] (defScope s_law_right) := ⟨rfl, rfl, rfl, by decide +kernel, rfl, by decide +kernel, by decide +kernel⟩
abbrev s_law : Stmt := topS 50
theorem sc_law : FnScope ["_law_script", "_law_k", "_law_cell"] ["_law_script"] (defScope s_law) := ⟨rfl, rfl, rfl, by decide +kernel, rfl, by decide +kernel, by decide +kernel⟩
abbrev s_Effect___init : Stmt := inClass (topS 28) 0
theorem sc_Effect___init : FnScope ["self", "first", "exits", "is_valid"] ["self", "first", "exits"] (defScope s_Effect___init) := ⟨rfl, rfl, rfl, by decide +kernel, rfl, by decide +kernel, by decide +kernel⟩
abbrev s_Effect_first : Stmt := inClass (topS 28) 1
theorem sc_Effect_first : FnScope ["self"] ["self"] (defScope s_Effect_first) := ⟨rfl, rfl, rfl, by decide +kernel, rfl, by decide +kernel, by decide +kernel⟩
abbrev s_Effect_exits : Stmt := inClass (topS 28) 2
theorem sc_Effect_exits : FnScope ["self"] ["self"] (defScope s_Effect_exits) := ⟨rfl, rfl, rfl, by decide +kernel, rfl, by decide +kernel, by decide +kernel⟩
abbrev s_Effect_leaves : Stmt := inClass (topS 28) 4
theorem sc_Effect_leaves : FnScope ["self", "used", "page", "later"] ["self"] (defScope s_Effect_leaves) := ⟨rfl, rfl, rfl, by decide +kernel, rfl, by decide +kernel, by decide +kernel⟩
abbrev s_Effect___len : Stmt := inClass (topS 28) 5
theorem sc_Effect___len : FnScope ["self"] ["self"] (defScope s_Effect___len) := ⟨rfl, rfl, rfl, by decide +kernel, rfl, by decide +kernel, by decide +kernel⟩
abbrev s_Effect___eq : Stmt := inClass (topS 28) 7
theorem sc_Effect___eq : FnScope ["self", "other"] ["self", "other"] (defScope s_Effect___eq) := ⟨rfl, rfl, rfl, by decide +kernel, rfl, by decide +kernel, by decide +kernel⟩
abbrev s_Effect_path_from : Stmt := inClass (topS 28) 8
theorem sc_Effect_path_from : FnScope ["self", "page", "found"] ["self", "page"] (defScope s_Effect_path_from) := ⟨rfl, rfl, rfl, by decide +kernel, rfl, by decide +kernel, by decide +kernel⟩
abbrev s_Effect___call : Stmt := inClass (topS 28) 9
theorem sc_Effect___call : FnScope ["self", "trail", "place", "page"] ["self", "trail"] (defScope s_Effect___call) := ⟨rfl, rfl, rfl, by decide +kernel, rfl, by decide +kernel, by decide +kernel⟩
abbrev s_Effect___add : Stmt := inClass (topS 28) 10
theorem sc_Effect___add : FnScope ["self", "other", "exit_of", "page", "later"] ["self", "other"] (defScope s_Effect___add) := ⟨rfl, rfl, rfl, by decide +kernel, rfl, by decide +kernel, by decide +kernel⟩
structure Txt (K : PySem.W.Frag) (mg : Str → Option Value) where
  C_BreadcrumbsError : Addr
  g_BreadcrumbsError : mg "BreadcrumbsError" = some (.ref C_BreadcrumbsError)
  k_BreadcrumbsError : PySem.W.keepIn K (.ref C_BreadcrumbsError) = true
  x_BreadcrumbsError : PySem.W.excIn K C_BreadcrumbsError [.type "ValueError", .type "Exception", .type "BaseException", .type "object"] "ValueError.__new__" = true
  e_BreadcrumbsError : ExcC K C_BreadcrumbsError
  t_BreadcrumbsError : PySem.W.typeIn K (.ref C_BreadcrumbsError) = some (.type "type")
  b_BreadcrumbsError : PySem.W.subIn K (.ref C_BreadcrumbsError) (.type "BaseException") = some true
  r_BreadcrumbsError : MroIs K C_BreadcrumbsError [C_BreadcrumbsError]
  C_InvalidEffectError : Addr
  g_InvalidEffectError : mg "InvalidEffectError" = some (.ref C_InvalidEffectError)
  k_InvalidEffectError : PySem.W.keepIn K (.ref C_InvalidEffectError) = true
  x_InvalidEffectError : PySem.W.excIn K C_InvalidEffectError [.type "ValueError", .type "Exception", .type "BaseException", .type "object"] "ValueError.__new__" = true
  e_InvalidEffectError : ExcC K C_InvalidEffectError
  t_InvalidEffectError : PySem.W.typeIn K (.ref C_InvalidEffectError) = some (.type "type")
  b_InvalidEffectError : PySem.W.subIn K (.ref C_InvalidEffectError) (.type "BaseException") = some true
  r_InvalidEffectError : MroIs K C_InvalidEffectError [C_InvalidEffectError, C_BreadcrumbsError]
  C_InvalidNumberError : Addr
  g_InvalidNumberError : mg "InvalidNumberError" = some (.ref C_InvalidNumberError)
  k_InvalidNumberError : PySem.W.keepIn K (.ref C_InvalidNumberError) = true
  x_InvalidNumberError : PySem.W.excIn K C_InvalidNumberError [.type "ValueError", .type "Exception", .type "BaseException", .type "object"] "ValueError.__new__" = true
  e_InvalidNumberError : ExcC K C_InvalidNumberError
  t_InvalidNumberError : PySem.W.typeIn K (.ref C_InvalidNumberError) = some (.type "type")
  b_InvalidNumberError : PySem.W.subIn K (.ref C_InvalidNumberError) (.type "BaseException") = some true
  r_InvalidNumberError : MroIs K C_InvalidNumberError [C_InvalidNumberError, C_BreadcrumbsError]
  C_InvalidTrailError : Addr
  g_InvalidTrailError : mg "InvalidTrailError" = some (.ref C_InvalidTrailError)
  k_InvalidTrailError : PySem.W.keepIn K (.ref C_InvalidTrailError) = true
  x_InvalidTrailError : PySem.W.excIn K C_InvalidTrailError [.type "ValueError", .type "Exception", .type "BaseException", .type "object"] "ValueError.__new__" = true
  e_InvalidTrailError : ExcC K C_InvalidTrailError
  t_InvalidTrailError : PySem.W.typeIn K (.ref C_InvalidTrailError) = some (.type "type")
  b_InvalidTrailError : PySem.W.subIn K (.ref C_InvalidTrailError) (.type "BaseException") = some true
  r_InvalidTrailError : MroIs K C_InvalidTrailError [C_InvalidTrailError, C_BreadcrumbsError]
  C_InvalidVisitsError : Addr
  g_InvalidVisitsError : mg "InvalidVisitsError" = some (.ref C_InvalidVisitsError)
  k_InvalidVisitsError : PySem.W.keepIn K (.ref C_InvalidVisitsError) = true
  x_InvalidVisitsError : PySem.W.excIn K C_InvalidVisitsError [.type "ValueError", .type "Exception", .type "BaseException", .type "object"] "ValueError.__new__" = true
  e_InvalidVisitsError : ExcC K C_InvalidVisitsError
  t_InvalidVisitsError : PySem.W.typeIn K (.ref C_InvalidVisitsError) = some (.type "type")
  b_InvalidVisitsError : PySem.W.subIn K (.ref C_InvalidVisitsError) (.type "BaseException") = some true
  r_InvalidVisitsError : MroIs K C_InvalidVisitsError [C_InvalidVisitsError, C_BreadcrumbsError]
  nd : [C_BreadcrumbsError, C_InvalidEffectError, C_InvalidNumberError, C_InvalidTrailError, C_InvalidVisitsError].Nodup
  C_Effect : Addr
  cl_Effect : Cls K C_Effect
  g_Effect : mg "Effect" = some (.ref C_Effect)
  x_Effect : ClsO K C_Effect
  na_Effect_begin_page : NoAttr K C_Effect "begin_page"
  na_Effect_pairs : NoAttr K C_Effect "pairs"
  na_Effect_exit_of : NoAttr K C_Effect "exit_of"
  f_is_integer : Addr
  fd_is_integer : FuncData
  F_is_integer : Fun K "is_integer" "is_integer" s_is_integer f_is_integer fd_is_integer
  m_is_integer : mg "is_integer" = some (.ref f_is_integer)
  b_is_integer : Binds K fd_is_integer ["value", "least", "most"] []
  f_check_number : Addr
  fd_check_number : FuncData
  F_check_number : Fun K "check_number" "check_number" s_check_number f_check_number fd_check_number
  m_check_number : mg "check_number" = some (.ref f_check_number)
  b_check_number : Binds K fd_check_number ["value", "least", "most"] []
  f_is_page : Addr
  fd_is_page : FuncData
  F_is_page : Fun K "is_page" "is_page" s_is_page f_is_page fd_is_page
  m_is_page : mg "is_page" = some (.ref f_is_page)
  b_is_page : Binds K fd_is_page ["value"] []
  f_is_visits : Addr
  fd_is_visits : FuncData
  F_is_visits : Fun K "is_visits" "is_visits" s_is_visits f_is_visits fd_is_visits
  m_is_visits : mg "is_visits" = some (.ref f_is_visits)
  b_is_visits : Binds K fd_is_visits ["value"] []
  f_is_trail : Addr
  fd_is_trail : FuncData
  F_is_trail : Fun K "is_trail" "is_trail" s_is_trail f_is_trail fd_is_trail
  m_is_trail : mg "is_trail" = some (.ref f_is_trail)
  b_is_trail : Binds K fd_is_trail ["value"] []
  f_check_visits : Addr
  fd_check_visits : FuncData
  F_check_visits : Fun K "check_visits" "check_visits" s_check_visits f_check_visits fd_check_visits
  m_check_visits : mg "check_visits" = some (.ref f_check_visits)
  b_check_visits : Binds K fd_check_visits ["visits"] []
  f_check_trail : Addr
  fd_check_trail : FuncData
  F_check_trail : Fun K "check_trail" "check_trail" s_check_trail f_check_trail fd_check_trail
  m_check_trail : mg "check_trail" = some (.ref f_check_trail)
  b_check_trail : Binds K fd_check_trail ["trail"] []
  f_visited : Addr
  fd_visited : FuncData
  F_visited : Fun K "visited" "visited" s_visited f_visited fd_visited
  m_visited : mg "visited" = some (.ref f_visited)
  b_visited : Binds K fd_visited ["trail", "page"] []
  f_trail_after : Addr
  fd_trail_after : FuncData
  F_trail_after : Fun K "trail_after" "trail_after" s_trail_after f_trail_after fd_trail_after
  m_trail_after : mg "trail_after" = some (.ref f_trail_after)
  dv_trail_after : List Value
  dr_trail_after : Vals [.non] dv_trail_after
  bd_trail_after : Binds K fd_trail_after ["visits", "start"] dv_trail_after
  f_trails_along : Addr
  fd_trails_along : FuncData
  F_trails_along : Fun K "trails_along" "trails_along" s_trails_along f_trails_along fd_trails_along
  m_trails_along : mg "trails_along" = some (.ref f_trails_along)
  b_trails_along : Binds K fd_trails_along ["visits"] []
  f_visits_of : Addr
  fd_visits_of : FuncData
  F_visits_of : Fun K "visits_of" "visits_of" s_visits_of f_visits_of fd_visits_of
  m_visits_of : mg "visits_of" = some (.ref f_visits_of)
  b_visits_of : Binds K fd_visits_of ["trails"] []
  f_exits_in : Addr
  fd_exits_in : FuncData
  F_exits_in : Fun K "exits_in" "exits_in" s_exits_in f_exits_in fd_exits_in
  m_exits_in : mg "exits_in" = some (.ref f_exits_in)
  b_exits_in : Binds K fd_exits_in ["visits"] []
  f_is_pair : Addr
  fd_is_pair : FuncData
  F_is_pair : Fun K "is_pair" "is_pair" s_is_pair f_is_pair fd_is_pair
  m_is_pair : mg "is_pair" = some (.ref f_is_pair)
  b_is_pair : Binds K fd_is_pair ["value"] []
  f_leads_to_root : Addr
  fd_leads_to_root : FuncData
  F_leads_to_root : Fun K "leads_to_root" "leads_to_root" s_leads_to_root f_leads_to_root fd_leads_to_root
  m_leads_to_root : mg "leads_to_root" = some (.ref f_leads_to_root)
  b_leads_to_root : Binds K fd_leads_to_root ["exit_of", "page", "root"] []
  f_are_exits : Addr
  fd_are_exits : FuncData
  F_are_exits : Fun K "are_exits" "are_exits" s_are_exits f_are_exits fd_are_exits
  m_are_exits : mg "are_exits" = some (.ref f_are_exits)
  b_are_exits : Binds K fd_are_exits ["value"] []
  f_check_effect : Addr
  fd_check_effect : FuncData
  F_check_effect : Fun K "check_effect" "check_effect" s_check_effect f_check_effect fd_check_effect
  m_check_effect : mg "check_effect" = some (.ref f_check_effect)
  b_check_effect : Binds K fd_check_effect ["value"] []
  f_effect_in : Addr
  fd_effect_in : FuncData
  F_effect_in : Fun K "effect_in" "effect_in" s_effect_in f_effect_in fd_effect_in
  m_effect_in : mg "effect_in" = some (.ref f_effect_in)
  b_effect_in : Binds K fd_effect_in ["visits"] []
  f_effect_of : Addr
  fd_effect_of : FuncData
  F_effect_of : Fun K "effect_of" "effect_of" s_effect_of f_effect_of fd_effect_of
  m_effect_of : mg "effect_of" = some (.ref f_effect_of)
  b_effect_of : Binds K fd_effect_of ["visits"] []
  f_same_effect : Addr
  fd_same_effect : FuncData
  F_same_effect : Fun K "same_effect" "same_effect" s_same_effect f_same_effect fd_same_effect
  m_same_effect : mg "same_effect" = some (.ref f_same_effect)
  b_same_effect : Binds K fd_same_effect ["one", "two"] []
  f_parting_trail : Addr
  fd_parting_trail : FuncData
  F_parting_trail : Fun K "parting_trail" "parting_trail" s_parting_trail f_parting_trail fd_parting_trail
  m_parting_trail : mg "parting_trail" = some (.ref f_parting_trail)
  b_parting_trail : Binds K fd_parting_trail ["one", "two"] []
  f_factorial : Addr
  fd_factorial : FuncData
  F_factorial : Fun K "factorial" "factorial" s_factorial f_factorial fd_factorial
  m_factorial : mg "factorial" = some (.ref f_factorial)
  b_factorial : Binds K fd_factorial ["many"] []
  f_free_leaves : Addr
  fd_free_leaves : FuncData
  F_free_leaves : Fun K "free_leaves" "free_leaves" s_free_leaves f_free_leaves fd_free_leaves
  m_free_leaves : mg "free_leaves" = some (.ref f_free_leaves)
  b_free_leaves : Binds K fd_free_leaves ["effect"] []
  f_fewest_in : Addr
  fd_fewest_in : FuncData
  F_fewest_in : Fun K "fewest_in" "fewest_in" s_fewest_in f_fewest_in fd_fewest_in
  m_fewest_in : mg "fewest_in" = some (.ref f_fewest_in)
  b_fewest_in : Binds K fd_fewest_in ["effect"] []
  f_number_of_lists : Addr
  fd_number_of_lists : FuncData
  F_number_of_lists : Fun K "number_of_lists" "number_of_lists" s_number_of_lists f_number_of_lists fd_number_of_lists
  m_number_of_lists : mg "number_of_lists" = some (.ref f_number_of_lists)
  b_number_of_lists : Binds K fd_number_of_lists ["effect"] []
  f_list_with : Addr
  fd_list_with : FuncData
  F_list_with : Fun K "list_with" "list_with" s_list_with f_list_with fd_list_with
  m_list_with : mg "list_with" = some (.ref f_list_with)
  b_list_with : Binds K fd_list_with ["effect", "order"] []
  f_fewest_visits : Addr
  fd_fewest_visits : FuncData
  F_fewest_visits : Fun K "fewest_visits" "fewest_visits" s_fewest_visits f_fewest_visits fd_fewest_visits
  m_fewest_visits : mg "fewest_visits" = some (.ref f_fewest_visits)
  b_fewest_visits : Binds K fd_fewest_visits ["effect"] []
  f_count_shortest : Addr
  fd_count_shortest : FuncData
  F_count_shortest : Fun K "count_shortest" "count_shortest" s_count_shortest f_count_shortest fd_count_shortest
  m_count_shortest : mg "count_shortest" = some (.ref f_count_shortest)
  b_count_shortest : Binds K fd_count_shortest ["effect"] []
  f_nth_shortest : Addr
  fd_nth_shortest : FuncData
  F_nth_shortest : Fun K "nth_shortest" "nth_shortest" s_nth_shortest f_nth_shortest fd_nth_shortest
  m_nth_shortest : mg "nth_shortest" = some (.ref f_nth_shortest)
  b_nth_shortest : Binds K fd_nth_shortest ["effect", "index"] []
  f_law_bag : Addr
  fd_law_bag : FuncData
  F_law_bag : Fun K "_law_bag" "_law_bag" s_law_bag f_law_bag fd_law_bag
  m_law_bag : mg "_law_bag" = some (.ref f_law_bag)
  b_law_bag : Binds K fd_law_bag ["_law_cell", "_law_turn"] []
  f_law_draw : Addr
  fd_law_draw : FuncData
  F_law_draw : Fun K "_law_draw" "_law_draw" s_law_draw f_law_draw fd_law_draw
  m_law_draw : mg "_law_draw" = some (.ref f_law_draw)
  b_law_draw : Binds K fd_law_draw ["_law_bag_here", "_law_most"] []
  f_law_cells : Addr
  fd_law_cells : FuncData
  F_law_cells : Fun K "_law_cells" "_law_cells" s_law_cells f_law_cells fd_law_cells
  m_law_cells : mg "_law_cells" = some (.ref f_law_cells)
  b_law_cells : Binds K fd_law_cells ["_law_script"] []
  f_law_names : Addr
  fd_law_names : FuncData
  F_law_names : Fun K "_law_names" "_law_names" s_law_names f_law_names fd_law_names
  m_law_names : mg "_law_names" = some (.ref f_law_names)
  b_law_names : Binds K fd_law_names ["_law_bag_here", "_law_most"] []
  f_law_row : Addr
  fd_law_row : FuncData
  F_law_row : Fun K "_law_row" "_law_row" s_law_row f_law_row fd_law_row
  m_law_row : mg "_law_row" = some (.ref f_law_row)
  b_law_row : Binds K fd_law_row ["_law_bag_here", "_law_names_here", "_law_most"] []
  f_law_right : Addr
  fd_law_right : FuncData
  F_law_right : Fun K "_law_right" "_law_right" s_law_right f_law_right fd_law_right
  m_law_right : mg "_law_right" = some (.ref f_law_right)
  b_law_right : Binds K fd_law_right ["_law_script", "_law_bag_here"] []
  f_law : Addr
  fd_law : FuncData
  F_law : Fun K "law" "law" s_law f_law fd_law
  m_law : mg "law" = some (.ref f_law)
  b_law : Binds K fd_law ["_law_script"] []
  f_Effect___init : Addr
  fd_Effect___init : FuncData
  F_Effect___init : Fun K "__init__" "Effect.__init__" s_Effect___init f_Effect___init fd_Effect___init
  b_Effect___init : Binds K fd_Effect___init ["self", "first", "exits"] []
  M_Effect : Mk K C_Effect f_Effect___init
  f_Effect_first : Addr
  fd_Effect_first : FuncData
  F_Effect_first : Fun K "first" "Effect.first" s_Effect_first f_Effect_first fd_Effect_first
  b_Effect_first : Binds K fd_Effect_first ["self"] []
  q_Effect_first : Addr
  p_Effect_first : PropOf K C_Effect "first" q_Effect_first f_Effect_first
  f_Effect_exits : Addr
  fd_Effect_exits : FuncData
  F_Effect_exits : Fun K "exits" "Effect.exits" s_Effect_exits f_Effect_exits fd_Effect_exits
  b_Effect_exits : Binds K fd_Effect_exits ["self"] []
  q_Effect_exits : Addr
  p_Effect_exits : PropOf K C_Effect "exits" q_Effect_exits f_Effect_exits
  f_Effect_leaves : Addr
  fd_Effect_leaves : FuncData
  F_Effect_leaves : Fun K "leaves" "Effect.leaves" s_Effect_leaves f_Effect_leaves fd_Effect_leaves
  b_Effect_leaves : Binds K fd_Effect_leaves ["self"] []
  q_Effect_leaves : Addr
  p_Effect_leaves : PropOf K C_Effect "leaves" q_Effect_leaves f_Effect_leaves
  f_Effect___len : Addr
  fd_Effect___len : FuncData
  F_Effect___len : Fun K "__len__" "Effect.__len__" s_Effect___len f_Effect___len fd_Effect___len
  b_Effect___len : Binds K fd_Effect___len ["self"] []
  h_Effect___len : PySem.W.findIn K (.ref C_Effect) "__len__" = some (some (.ref f_Effect___len))
  i_Effect___len : PySem.W.isFn K (.ref f_Effect___len) = true
  f_Effect___eq : Addr
  fd_Effect___eq : FuncData
  F_Effect___eq : Fun K "__eq__" "Effect.__eq__" s_Effect___eq f_Effect___eq fd_Effect___eq
  b_Effect___eq : Binds K fd_Effect___eq ["self", "other"] []
  h_Effect___eq : PySem.W.findIn K (.ref C_Effect) "__eq__" = some (some (.ref f_Effect___eq))
  i_Effect___eq : PySem.W.isFn K (.ref f_Effect___eq) = true
  f_Effect_path_from : Addr
  fd_Effect_path_from : FuncData
  F_Effect_path_from : Fun K "path_from" "Effect.path_from" s_Effect_path_from f_Effect_path_from fd_Effect_path_from
  b_Effect_path_from : Binds K fd_Effect_path_from ["self", "page"] []
  m_Effect_path_from : Meth K C_Effect "path_from" f_Effect_path_from
  f_Effect___call : Addr
  fd_Effect___call : FuncData
  F_Effect___call : Fun K "__call__" "Effect.__call__" s_Effect___call f_Effect___call fd_Effect___call
  b_Effect___call : Binds K fd_Effect___call ["self", "trail"] []
  o_Effect___call : CallOf K C_Effect f_Effect___call
  f_Effect___add : Addr
  fd_Effect___add : FuncData
  F_Effect___add : Fun K "__add__" "Effect.__add__" s_Effect___add f_Effect___add fd_Effect___add
  b_Effect___add : Binds K fd_Effect___add ["self", "other"] []
  h_Effect___add : PySem.W.findIn K (.ref C_Effect) "__add__" = some (some (.ref f_Effect___add))
  i_Effect___add : PySem.W.isFn K (.ref f_Effect___add) = true
  k_trail_after_1_1 : KBinds K fd_trail_after ["visits", "start"] ["start"] (kg .none 1 1 [0, 1]) (kg .non 1 1 [0, 1])
  t_MOST_PAGE : Tok
  c_MOST_PAGE : mg "MOST_PAGE" = some (.int 39 t_MOST_PAGE)
  t_MOST_PAGES : Tok
  c_MOST_PAGES : mg "MOST_PAGES" = some (.int 40 t_MOST_PAGES)
  t_MOST_TRAILS : Tok
  c_MOST_TRAILS : mg "MOST_TRAILS" = some (.int 300 t_MOST_TRAILS)
  t_MOST_VISITS : Tok
  c_MOST_VISITS : mg "MOST_VISITS" = some (.int 300 t_MOST_VISITS)
  n_all : mg "all" = none
  n_any : mg "any" = none
  n_bool : mg "bool" = none
  n_dict : mg "dict" = none
  n_divmod : mg "divmod" = none
  n_enumerate : mg "enumerate" = none
  n_int : mg "int" = none
  n_isinstance : mg "isinstance" = none
  n_len : mg "len" = none
  n_list : mg "list" = none
  n_max : mg "max" = none
  n_min : mg "min" = none
  n_range : mg "range" = none
  n_set : mg "set" = none
  n_sorted : mg "sorted" = none
  n_tuple : mg "tuple" = none
  n_zip : mg "zip" = none
local macro_rules | `(tactic| walk_at "sx") => `(tactic| try simp only [x_callS, x_callF4, x_lc2, x_callG, x_g0, x_gfor, x_ghead, x_gplain, x_gthen, x_gyield, x_listG, x_lockE, x_lockS, x_daug, x_seq, x_next, x_brk, x_cnt, x_nev, x_ret, x_retN, x_drop, x_ifS, x_asg, x_gn, x_gsub, x_par, x_par3, x_aug, x_for, x_lc, x_rng1, x_rng2, x_rng3, x_ilist, x_itup, x_ienum, x_izip, x_izipA, x_istr, x_var, x_c, x_op, x_un, x_test, x_b, x_chain, x_and, x_or, x_not, x_andV, x_orV, x_notV, x_ife, x_nil, x_cons, x_lst, x_tup, x_cb, x_call, x_callK, x_bm, x_bm0, x_tru, x_sl, x_nopart, x_part, x_revL, x_I0, x_I, x_U, x_ip, x_ipC, x_eqI, x_neI, x_eqB, x_neB, x_eqS, x_neS, x_isB, x_isNB, x_lrg, x_gall, x_lenSet, x_sortSet, x_rg1, x_rg2, x_dnewK, x_dnewT, x_dget, x_dget1, x_dget2, x_din, x_dnotin, x_dput, x_ikeys, x_fld, x_sfld, x_prop, x_meth, x_make, x_dc, x_callO, x_callOK,
  L2.start, List.map_cons, List.map_nil, List.length_cons, List.length_nil, Nat.reduceAdd, Nat.reduceSub, Nat.sub_self, Nat.zero_add, List.replicate, List.replicate_succ, List.replicate_zero, List.append_nil, List.cons_append, List.nil_append, List.set_cons_zero, List.set_cons_succ, List.getElem?_cons_zero, List.getElem?_cons_succ, Option.some.injEq, V.int.injEq, V.bl.injEq, V.ref.injEq, V.str.injEq, List.cons.injEq, and_true, true_and, exists_eq_left', exists_eq_left, exists_and_left, exists_eq, if_true, if_false, ite_true, ite_false, Bool.true_eq_false, Bool.false_eq_true, reduceIte, reduceCtorEq, Bool.not_true, Bool.not_false, decide_true, decide_false, decide_eq_true_eq, Bool.and_true, Bool.true_and, Bool.and_self, Bool.and_false, Bool.false_and, Bool.or_self, Bool.or_false, Bool.false_or, Bool.or_true, Bool.true_or, eq_self])
section
variable {P : Program} {w : World} {K : PySem.W.Frag} {mg : Str → Option Value} {base : Heap}
/-- a value with its type: a number, or what is none -/
inductive Kd (K : PySem.W.Frag) (H : Hp) : V → Prop
  | int (i : Int) : Kd K H (.int i)
  | bl (b : Bool) : Kd K H (.bl b)
  | odd {v : V} {t : Value} (h : TyX K H v t) (n : PySem.W.kitOne K t (.type "int") = some false) : Kd K H v
def inR (lo hi : Int) : V → Bool
  | .int i => decide (lo ≤ i) && decide (i ≤ hi)
  | _ => false
def spIsInt (K : PySem.W.Frag) : Sp := fun vs H Q _ => ∃ (v : V) (lo hi : Int), vs = [v, .int lo, .int hi] ∧ Kd K H v ∧ Q (.bl (inR lo hi v)) H
theorem ok_is_integer (T : Txt K mg) : FnOk P w K mg base CX0 1 T.f_is_integer T.fd_is_integer ["value", "least", "most"] (spIsInt K) := by
  refine T.F_is_integer.ok sc_is_integer (fun vs H Q E h => ?_) (fun cdv A outer s H vs Q E hr h => ?_)
  · obtain ⟨v, lo, hi, rfl, _⟩ := h
    rfl
  · obtain ⟨v, lo, hi, rfl, kd, k⟩ := h
    apply Exists.intro
    apply And.intro
    · apply pss_one
      exact (ps_ret (pe_and (pe_callB (k_isi (K := K) rfl) (by rfl) T.n_isinstance (by decide +kernel) (pa_cons (pv 0) (pa_cons (pe_bltn (v := .ty "int") (by rfl) T.n_int (by decide +kernel) rfl) pa_nil))) (pe_and (pe_not (pe_callB (k_isi (K := K) rfl) (by rfl) T.n_isinstance (by decide +kernel) (pa_cons (pv 0) (pa_cons (pe_bltn (v := .ty "bool") (by rfl) T.n_bool (by decide +kernel) rfl) pa_nil)))) (pe_one (pe_chain op_le op_le (pv 1) (pv 0) (pv 2))))))
    walk_at "sx"
    cases kd with
    | int i =>
      refine isi_int (b := true) (by decide +kernel) ?_
      walk_at "sx"
      refine isi_int (b := false) (by decide +kernel) ?_
      have k' : Q (.bl (decide (lo ≤ i) && decide (i ≤ hi))) H := k
      walk_at "sx"
      by_cases h1 : lo ≤ i
      · simpa [h1] using k'
      · simpa [h1] using k'
    | bl b =>
      refine ⟨.bl b, .ty "int", .type "bool", .type "int", true, rfl, .ty "int", .base (.bl b), kit_ty (by decide +kernel), ?_⟩
      walk_at "sx"
      refine ⟨.bl b, .ty "bool", .type "bool", .type "bool", true, rfl, .ty "bool", .base (.bl b), kit_ty (by decide +kernel), ?_⟩
      walk_at "sx"
      exact k
    | odd ty n =>
      refine ⟨v, .ty "int", _, .type "int", false, rfl, .ty "int", ty, n, ?_⟩
      have e : inR lo hi v = false := by
        cases v with
        | int i =>
          cases ty with
          | base h => cases h; exact absurd n (by rw [kit_ty (r := true) (by decide +kernel)]; simp)
        | _ => rfl
      rw [e] at k
      walk_at "sx"
      exact k
def spIsPage (K : PySem.W.Frag) : Sp := fun vs H Q _ => ∃ v, vs = [v] ∧ Kd K H v ∧ Q (.bl (inR 0 39 v)) H
theorem ok_is_page (T : Txt K mg) : FnOk P w K mg base CX0 2 T.f_is_page T.fd_is_page ["value"] (spIsPage K) := by
  refine T.F_is_page.ok sc_is_page (fun vs H Q E h => ?_) (fun cdv A outer s H vs Q E hr h => ?_)
  · obtain ⟨i, rfl, _⟩ := h
    rfl
  · obtain ⟨i, rfl, kd, k⟩ := h
    apply Exists.intro
    apply And.intro
    · apply pss_one
      exact (ps_ret (pe_call (ok_is_integer T) (hr.mono (by decide)) (by rfl) T.m_is_integer T.F_is_integer.kp T.b_is_integer .nil pass0 (pa_cons (pv 0) (pa_cons pe_int (pa_cons (pe_glob (v := .int 39) rfl T.c_MOST_PAGE ⟨_, rfl⟩) pa_nil)))))
    walk_at "sx"
    exact ⟨i, 0, 39, rfl, kd, k⟩
theorem Kd.of {K : PySem.W.Frag} {H : Hp} {v : V} {t : Value} (h : TyX K H v t) (n : PySem.W.kitOne K t (.type "int") = some false) : Kd K H v := .odd h n
theorem kd_non {K : PySem.W.Frag} {H : Hp} : Kd K H .non := .odd (.base .non) (kit_ty (by decide +kernel))
theorem kd_str {K : PySem.W.Frag} {H : Hp} (x : Str) : Kd K H (.str x) := .odd (.base (.str x)) (kit_ty (by decide +kernel))
theorem kd_lst {K : PySem.W.Frag} {H : Hp} {a : Addr} {xs : List V} (e : H a = some (.lst xs)) : Kd K H (.ref a) := .odd (.base (.lst e)) (kit_ty (by decide +kernel))
theorem kd_tup {K : PySem.W.Frag} {H : Hp} {a : Addr} {xs : List V} (e : H a = some (.tup xs)) : Kd K H (.ref a) := .odd (.base (.tup e)) (kit_ty (by decide +kernel))
theorem kd_dic {K : PySem.W.Frag} {H : Hp} {a : Addr} {xs : List (Key × V)} (e : H a = some (.dK xs)) : Kd K H (.ref a) := .odd (.base (.dK e)) (kit_ty (by decide +kernel))
end
/-! ### sites.py on any value -/
section
variable {P : Program} {w : World} {K : PySem.W.Frag} {mg : Str → Option Value} {base : Heap}
theorem inR_inD {H : Hp} {v : V} {d : PyData} {lo hi : Int} (h : De K H v d) : inR lo hi v = inD lo hi d := by
  cases h <;> rfl
theorem de_nums {H : Hp} {m : Int} : ∀ {xs : List V} {ds : List PyData}, DeAll K H xs ds → ds.all (inD 0 m) = true → xs = (ds.map numD).map V.int ∧ ∀ n ∈ ds.map numD, 0 ≤ n ∧ n ≤ m
  | _, [], .nil, _ => ⟨rfl, fun n h => by cases h⟩
  | x :: xs, d :: ds, .cons h1 h2, c => by
    rw [List.all_cons, Bool.and_eq_true] at c
    obtain ⟨e, hn⟩ := de_nums h2 c.2
    cases h1 with
    | int i =>
      have c1 := c.1
      simp [inD] at c1
      refine ⟨by rw [e]; rfl, fun n hn2 => ?_⟩
      rw [List.map_cons] at hn2
      rcases List.mem_cons.mp hn2 with rfl | q
      · exact c1
      · exact hn n q
    | _ => exact absurd c.1 (by simp [inD])
theorem de_kd {H : Hp} {v : V} {d : PyData} (h : De K H v d) : Kd K H v := by
  cases h with
  | non => exact kd_non
  | bl b => exact .bl b
  | int i => exact .int i
  | str x => exact kd_str x
  | lst h _ => exact .odd (tyx_l h) (kit_ty (by decide +kernel))
  | tup h _ => exact .odd (tyx_t h) (kit_ty (by decide +kernel))
  | dic h => exact kd_dic h
theorem pw_sorted {ns ms : List Int} (pw : ms.Pairwise (· < ·)) (mem : ∀ k : Int, k ∈ ms ↔ k ∈ ns) : (ns = ms) ↔ ns.Pairwise (· < ·) := by
  constructor
  · rintro rfl; exact pw
  · intro h; exact asc_same h pw fun k => (mem k).symm
theorem dbl {ds : List PyData} {f : PyData → Bool} : (List.range ds.length).map (fun i => f (ds.getD i .none)) = ds.map f := by
  apply List.ext_getElem
  · simp
  · intro i h1 h2
    simp at h1
    simp [List.getD_eq_getElem?_getD, h1]
theorem kept_ds {ds : List PyData} {n : Nat} (hn : n = ds.length) (f : PyData → Bool) : kept n (fun _ => true) (fun i => V.bl (f (ds.getD i .none))) = (ds.map f).map V.bl := by
  subst hn
  rw [kept_all, ← dbl, List.map_map]
  rfl
end
section
variable {P : Program} {w : World} {K : PySem.W.Frag} {mg : Str → Option Value} {base : Heap}
theorem inR_int {lo hi : Int} {v : V} (h : inR lo hi v = true) : ∃ i, v = .int i ∧ lo ≤ i ∧ i ≤ hi := by
  cases v with
  | int i =>
    have h' : (decide (lo ≤ i) && decide (i ≤ hi)) = true := h
    rw [Bool.and_eq_true, decide_eq_true_eq, decide_eq_true_eq] at h'
    exact ⟨i, rfl, h'.1, h'.2⟩
  | _ => cases h
def spCkN (K : PySem.W.Frag) (C : Addr) : Sp := fun vs H Q E => ∃ (v : V) (lo hi : Int), vs = [v, .int lo, .int hi] ∧ Kd K H v ∧ (inR lo hi v = true → Q .non H) ∧ (inR lo hi v = false → E (.ref C) none H)
theorem ok_check_number (T : Txt K mg) : FnOk P w K mg base (L2.CX P w) 2 T.f_check_number T.fd_check_number ["value", "least", "most"] (spCkN K T.C_InvalidNumberError) := by
  refine T.F_check_number.okX sc_check_number (fun vs H Q E h => ?_) (fun cdv A outer s H vs Q E hr h => ?_)
  · obtain ⟨v, lo, hi, rfl, _⟩ := h
    rfl
  · obtain ⟨v, lo, hi, rfl, kd, k1, k2⟩ := h
    apply Exists.intro
    apply And.intro
    · apply pss_one
      apply ps_if
      · exact (pt_not (pt_val (pe_call (ok_is_integer T) (hr.mono (by decide)) (by rfl) T.m_is_integer T.F_is_integer.kp T.b_is_integer .nil pass0 (pa_cons (pv 0) (pa_cons (pv 1) (pa_cons (pv 2) pa_nil))))))
      · apply pss_one
        exact (ps_raise rfl (takes_of rfl rfl rfl rfl) (pmk_own PySem.F.excBase_ValueError T.x_InvalidNumberError T.g_InvalidNumberError T.k_InvalidNumberError (raises_own T.b_InvalidNumberError T.t_InvalidNumberError) (by rfl)))
      · exact pss_nil
    walk_at "sx"
    refine ⟨v, lo, hi, rfl, kd, ?_⟩
    cases c : inR lo hi v with
    | true =>
      walk_at "sx"
      exact k1 c
    | false =>
      walk_at "sx"
      exact k2 c
end
section
variable {P : Program} {w : World} {K : PySem.W.Frag} {mg : Str → Option Value} {base : Heap}
theorem ints_at {ns : List Int} {i : Nat} {v : V} (h : (ns.map V.int)[i]? = some v) : ∃ n, ns[i]? = some n ∧ v = .int n := by
  rw [List.getElem?_map] at h
  cases e : ns[i]? with
  | none => rw [e] at h; cases h
  | some n => rw [e] at h; cases h; exact ⟨n, rfl, rfl⟩
theorem at_ints {ns : List Int} {i : Nat} {n : Int} (h : ns[i]? = some n) : (ns.map V.int)[i]? = some (.int n) := by rw [List.getElem?_map, h]; rfl
/-- is the value a list of 0 to 300 pages? -/
def isVisD : PyData → Bool
  | .list ds => decide (ds.length ≤ 300) && ds.all (inD 0 39)
  | _ => false
theorem vis_D {H : Hp} {v : V} {d : PyData} (h : De K H v d) (c : isVisD d = true) : ∃ (a : Addr) (ns : List Int), v = .ref a ∧ SqL K H a (ns.map V.int) ∧ ns.length ≤ 300 ∧ Pg 40 ns := by
  cases h with
  | @lst a xs ds hA hx =>
    have c' : (decide (ds.length ≤ 300) && ds.all (inD 0 39)) = true := c
    rw [Bool.and_eq_true, decide_eq_true_eq] at c'
    obtain ⟨ex, hn⟩ := de_nums (m := 39) hx c'.2
    refine ⟨a, ds.map numD, rfl, by rw [← ex]; exact hA, by rw [List.length_map]; exact c'.1, fun x hx => ?_⟩
    have := hn x hx
    omega
  | _ => cases c
def spIsVis (K : PySem.W.Frag) : Sp := fun vs H Q _ => ∃ (v : V) (d : PyData), vs = [v] ∧ De K H v d ∧ ∀ H', Ex H H' → Q (.bl (isVisD d)) H'
theorem ok_is_visits (T : Txt K mg) : FnOk P w K mg base CX0 3 T.f_is_visits T.fd_is_visits ["value"] (spIsVis K) := by
  refine T.F_is_visits.ok sc_is_visits (fun vs H Q E h => ?_) (fun cdv A outer s H vs Q E hr h => ?_)
  · obtain ⟨v, d, rfl, _⟩ := h
    rfl
  · obtain ⟨v, d, rfl, hd, k⟩ := h
    apply Exists.intro
    apply And.intro
    · apply pss_one
      exact (ps_ret (pe_and (pe_callB (k_isi (K := K) rfl) (by rfl) T.n_isinstance (by decide +kernel) (pa_cons (pv 0) (pa_cons (pe_bltn (v := .ty "list") (by rfl) T.n_list (by decide +kernel) rfl) pa_nil))) (pe_and (pe_cmpR op_le (pe_callB (k_len (K := K) rfl) (by rfl) T.n_len PySem.boot_len (pa_cons (pv 0) pa_nil)) (pe_glob (v := .int 300) rfl T.c_MOST_VISITS ⟨_, rfl⟩) (by rfl)) (pe_one (pe_callB (k_all (K := K) rfl rfl) (by rfl) T.n_all (by decide +kernel) (pa_cons (pe_lc (own := [("page", 1)]) rfl sc_is_visits.nd (k_pi_list (K := K) rfl (pv 0)) (blkOk_by (own := [("page", 1)]) (N := ["value", "page"]) (sc := defScope s_is_visits) (by decide +kernel)) (fun _ _ _ _ _ => by exact (pg_name (i := 1) sc_is_visits.nd rfl (.inl rfl))) (fun _ _ _ _ _ => by exact pts_nil) (fun _ _ _ _ _ => by exact (pe_call (ok_is_page T) (hr.mono (by decide)) (by rfl) T.m_is_page T.F_is_page.kp T.b_is_page .nil pass0 (pa_cons (pv 1) pa_nil)))) pa_nil))))))
    walk_at "sx"
    cases hd with
    | @lst a xs ds hA hx =>
      have ln := hx.len
      refine isi_x (b := true) (tyx_l hA) (by decide +kernel) ?_
      walk_at "sx"
      refine lenL hA ?_
      walk_at "sx"
      by_cases hl : ds.length ≤ 300
      · have e1 : ((xs.length : Nat) : Int) ≤ 300 := by omega
        simp only [e1]
        walk_at "sx"
        refine ⟨⟨_, hA⟩, fun D nD => ?_⟩
        refine lc_list (xs := xs) (fun _ => true) (fun j => V.bl (inD 0 39 (ds.getD j .none))) hA nD (by omega) (fun u => rfl) (fun j x _ => tyes) (fun j x hj _ => ?_) (fun H2 e2 hD => ?_)
        · obtain ⟨d, hdj, hde⟩ := hx.at hj
          intro H3 e3 R hR
          walk_at "sx"
          refine ⟨_, rfl, _, rfl, de_kd (De.ex e3 _ _ hde), ?_⟩
          rw [inR_inD hde, show d = ds.getD j .none by rw [List.getD_eq_getElem?_getD, hdj]; rfl]
          exact hR _ (Ex.refl _)
        · rw [kept_ds ln] at hD
          refine allL (.inl (.inl hD)) ?_
          rw [List.all_map]
          have ea : (id ∘ inD 0 39) = inD 0 39 := rfl
          rw [ea]
          have ev : isVisD (.list ds) = ds.all (inD 0 39) := by
            show (decide (ds.length ≤ 300) && ds.all (inD 0 39)) = _
            rw [decide_eq_true hl, Bool.true_and]
          rw [ev] at k
          exact k _ e2
      · have e1 : ¬ ((xs.length : Nat) : Int) ≤ 300 := by omega
        simp only [e1]
        walk_at "sx"
        have ev : isVisD (.list ds) = false := by
          show (decide (ds.length ≤ 300) && ds.all (inD 0 39)) = _
          rw [decide_eq_false hl, Bool.false_and]
        rw [ev] at k
        exact k _ (Ex.refl _)
    | non => exact isi_x (b := false) (.base .non) (by decide +kernel) (by walk_at "sx"; exact k _ (Ex.refl _))
    | bl b => exact isi_x (b := false) (.base (.bl b)) (by decide +kernel) (by walk_at "sx"; exact k _ (Ex.refl _))
    | int i => exact isi_x (b := false) (.base (.int i)) (by decide +kernel) (by walk_at "sx"; exact k _ (Ex.refl _))
    | str x => exact isi_x (b := false) (.base (.str x)) (by decide +kernel) (by walk_at "sx"; exact k _ (Ex.refl _))
    | tup h1 h2 => exact isi_x (b := false) (tyx_t h1) (by decide +kernel) (by walk_at "sx"; exact k _ (Ex.refl _))
    | dic h1 => exact isi_x (b := false) (.base (.dK h1)) (by decide +kernel) (by walk_at "sx"; exact k _ (Ex.refl _))
def spCkVis (K : PySem.W.Frag) (C : Addr) : Sp := fun vs H Q E => ∃ (v : V) (d : PyData), vs = [v] ∧ De K H v d ∧ (isVisD d = true → ∀ H', Ex H H' → Q .non H') ∧ (isVisD d = false → ∀ H', Ex H H' → E (.ref C) none H')
theorem ok_check_visits (T : Txt K mg) : FnOk P w K mg base (L2.CX P w) 4 T.f_check_visits T.fd_check_visits ["visits"] (spCkVis K T.C_InvalidVisitsError) := by
  refine T.F_check_visits.okX sc_check_visits (fun vs H Q E h => ?_) (fun cdv A outer s H vs Q E hr h => ?_)
  · obtain ⟨v, d, rfl, _⟩ := h
    rfl
  · obtain ⟨v, d, rfl, hd, k1, k2⟩ := h
    apply Exists.intro
    apply And.intro
    · apply pss_one
      apply ps_if
      · exact (pt_not (pt_val (pe_call (ok_is_visits T) (hr.mono (by decide)) (by rfl) T.m_is_visits T.F_is_visits.kp T.b_is_visits .nil pass0 (pa_cons (pv 0) pa_nil))))
      · apply pss_one
        exact (ps_raise rfl (takes_of rfl rfl rfl rfl) (pmk_own PySem.F.excBase_ValueError T.x_InvalidVisitsError T.g_InvalidVisitsError T.k_InvalidVisitsError (raises_own T.b_InvalidVisitsError T.t_InvalidVisitsError) (by rfl)))
      · exact pss_nil
    walk_at "sx"
    refine ⟨v, d, rfl, hd, fun H1 e1 => ?_⟩
    cases c : isVisD d with
    | true =>
      walk_at "sx"
      exact k1 c _ e1
    | false =>
      walk_at "sx"
      exact k2 c _ e1
theorem vis_ints {ns : List Int} (hl : ns.length ≤ 300) (hp : Pg 40 ns) : isVisD (.list (ns.map PyData.int)) = true := by
  show (decide ((ns.map PyData.int).length ≤ 300) && (ns.map PyData.int).all (inD 0 39)) = true
  rw [List.length_map, decide_eq_true hl, Bool.true_and, List.all_eq_true]
  intro d hd
  obtain ⟨n, hn, rfl⟩ := List.mem_map.mp hd
  have := hp n hn
  show (decide ((0 : Int) ≤ n) && decide (n ≤ 39)) = true
  rw [decide_eq_true (by omega), decide_eq_true (by omega)]
  rfl
end
section
variable {P : Program} {w : World} {K : PySem.W.Frag} {mg : Str → Option Value} {base : Heap}
def spVisited (K : PySem.W.Frag) : Sp := fun vs H Q _ => ∃ (a : Addr) (t : List Int) (p : Int), vs = [.ref a, .int p] ∧ H a = some (.lst (t.map V.int)) ∧ t.length ≤ 1000 ∧ ∀ r H', H r = none → Ex H H' → H' r = some (.lst ((vis t p).map V.int)) → Q (.ref r) H'
theorem ok_visited (T : Txt K mg) : FnOk P w K mg base CX0 1 T.f_visited T.fd_visited ["trail", "page"] (spVisited K) := by
  refine T.F_visited.ok sc_visited (fun vs H Q E h => ?_) (fun cdv A outer s H vs Q E hr h => ?_)
  · obtain ⟨a, t, p, rfl, _⟩ := h
    rfl
  · obtain ⟨a, t, p, rfl, hA, hl, k⟩ := h
    apply Exists.intro
    apply And.intro
    · apply pss_one
      exact (ps_ret (pe_ifExp (pt_cmpR (k_in (K := K) rfl) (pv 1) (pv 0) (by rfl)) (pe_slice (k_sl_list (K := K) rfl) (pv 0) po_none (po_some (pe_op op_add (k_bm (K := K) rfl (pe_bm PySem.F.plainAttrs_list PySem.F.slot_list_index PySem.F.type_list_index (k_index (K := K) rfl) (pv 0) (pa_cons (pv 1) pa_nil))) pe_int))) (pe_op op_cat (pv 0) (pe_lst (pa_cons (pv 1) pa_nil)))))
    walk_at "sx"
    refine inL (.inl (.inl hA)) ?_
    walk_at "sx"
    by_cases m : p ∈ t
    · have hi := List.idxOf_lt_length_of_mem m
      simp only [m]
      walk_at "sx"
      refine ⟨tyL hA, ?_⟩
      refine idxL (.inl (.inl hA)) m ?_
      walk_at "sx"
      refine slL (.inl (.inl hA)) fun r nr => ?_
      refine k r _ nr (Ex.new nr) ?_
      rw [upd_same, cut_to (j := t.idxOf p + 1) _ (by omega) (by rw [List.length_map]; omega)]
      unfold vis
      rw [if_pos m, List.map_take]
    · simp only [m]
      walk_at "sx"
      refine ⟨sz_ok (by omega), fun z nz => ?_⟩
      have e1 := Ex.new nz (o := .lst [V.int p])
      refine catL (e1 _ _ hA) upd_same (sz_ok (by rw [List.length_map, List.length_singleton]; omega)) fun r nr => ?_
      refine k r _ (fresh_back e1 nr) (e1.trans (Ex.new nr)) ?_
      rw [upd_same]
      unfold vis
      rw [if_neg m, List.map_append]
      rfl
def spIsTrail (K : PySem.W.Frag) : Sp := fun vs H Q _ => ∃ (a : Addr) (ns : List Int), vs = [.ref a] ∧ SqL K H a (ns.map V.int) ∧ ns.Nodup ∧ Pg 40 ns ∧ ∀ H', Ex H H' → Q (.bl true) H'
theorem ok_is_trail (T : Txt K mg) : FnOk P w K mg base CX0 3 T.f_is_trail T.fd_is_trail ["value"] (spIsTrail K) := by
  refine T.F_is_trail.ok sc_is_trail (fun vs H Q E h => ?_) (fun cdv A outer s H vs Q E hr h => ?_)
  · obtain ⟨a, ns, rfl, _⟩ := h
    rfl
  · obtain ⟨a, ns, rfl, hA, hn, hp, k⟩ := h
    apply Exists.intro
    apply And.intro
    · apply pss_cons
      · apply ps_if
        · exact (PW.pt (pw_or (pt_not (pt_val (pe_callB (k_isi (K := K) rfl) (by rfl) T.n_isinstance (by decide +kernel) (pa_cons (pv 0) (pa_cons (pe_bltn (v := .ty "list") (by rfl) T.n_list (by decide +kernel) rfl) pa_nil))))) (pw_or1 (pt_not (pt_val (pe_callB (k_all (K := K) rfl rfl) (by rfl) T.n_all (by decide +kernel) (pa_cons (pe_lc (own := [("page", 1)]) rfl sc_is_trail.nd (k_pi_list (K := K) rfl (pv 0)) (blkOk_by (own := [("page", 1)]) (N := ["value", "page"]) (sc := defScope s_is_trail) (by decide +kernel)) (fun _ _ _ _ _ => by exact (pg_name (i := 1) sc_is_trail.nd rfl (.inl rfl))) (fun _ _ _ _ _ => by exact pts_nil) (fun _ _ _ _ _ => by exact (pe_call (ok_is_page T) (hr.mono (by decide)) (by rfl) T.m_is_page T.F_is_page.kp T.b_is_page .nil pass0 (pa_cons (pv 1) pa_nil)))) pa_nil)))))))
        · apply pss_one
          exact (ps_ret pe_bl)
        · exact pss_nil
      apply pss_one
      exact (ps_ret (pe_cmpR op_eq (k_lenSet (K := K) rfl (by rfl) T.n_len (by rfl) T.n_set (pv 0)) (pe_callB (k_len (K := K) rfl) (by rfl) T.n_len PySem.boot_len (pa_cons (pv 0) pa_nil)) (by rfl)))
    have hl : ns.length ≤ 40 := nodup_len 40 hn hp
    walk_at "sx"
    refine isi_x (b := true) (tyx_l hA) (by decide +kernel) ?_
    walk_at "sx"
    refine ⟨⟨_, hA⟩, fun D nD => ?_⟩
    refine lc_list (fun _ => true) (fun _ => V.bl true) hA nD (by rw [List.length_map]; omega) (fun u => rfl) (fun i x _ => tyes) (fun i x hx _ => ?_) (fun H2 e2 hD => ?_)
    · obtain ⟨n, hn, rfl⟩ := ints_at hx
      obtain ⟨n0, n1⟩ := hp.at hn
      refine ev_call (vs := [.int n]) (ea_cons (ev_var rfl) ea_nil) (fun H3 e3 Q3 q3 E3 => ⟨.int n, rfl, .int n, ?_⟩)
      have z1 : n ≤ 39 := by omega
      show Q3 (.bl (decide (0 ≤ n) && decide (n ≤ 39))) H3
      rw [decide_eq_true n0, decide_eq_true z1]
      exact q3 H3 (Ex.refl _)
    · rw [kept_const] at hD
      have e5 : List.replicate (ns.map V.int).length (V.bl true) = (List.replicate ns.length true).map V.bl := by rw [List.map_replicate, List.length_map]
      rw [e5] at hD
      refine allL (.inl (.inl hD)) ?_
      rw [all_true]
      walk_at "sx"
      refine ⟨ns, ex_l e2 hA, hn, by omega, ?_⟩
      refine lenL (ex_l e2 hA) ?_
      rw [List.length_map]
      walk_at "sx"
      exact k _ e2
def spCheckTrail (K : PySem.W.Frag) : Sp := fun vs H Q _ => ∃ (a : Addr) (ns : List Int), vs = [.ref a] ∧ SqL K H a (ns.map V.int) ∧ ns.Nodup ∧ Pg 40 ns ∧ ∀ H', Ex H H' → Q .non H'
theorem ok_check_trail (T : Txt K mg) : FnOk P w K mg base CX0 4 T.f_check_trail T.fd_check_trail ["trail"] (spCheckTrail K) := by
  refine T.F_check_trail.ok sc_check_trail (fun vs H Q E h => ?_) (fun cdv A outer s H vs Q E hr h => ?_)
  · obtain ⟨a, ns, rfl, _⟩ := h
    rfl
  · obtain ⟨a, ns, rfl, hA, hn, hp, k⟩ := h
    apply Exists.intro
    apply And.intro
    · apply pss_one
      apply ps_if
      · exact (pt_not (pt_val (pe_call (ok_is_trail T) (hr.mono (by decide)) (by rfl) T.m_is_trail T.F_is_trail.kp T.b_is_trail .nil pass0 (pa_cons (pv 0) pa_nil))))
      · apply pss_one
        exact ps_never
      · exact pss_nil
    walk_at "sx"
    refine ⟨a, ns, rfl, hA, hn, hp, fun H1 e1 => ?_⟩
    walk_at "sx"
    exact k _ e1
/-- start: None, or a list that reads t -/
def Start (K : PySem.W.Frag) (H : Hp) (v : V) (t : List Int) : Prop := (v = .non ∧ t = []) ∨ ∃ s, v = .ref s ∧ SqL K H s (t.map V.int)
def trf (t row : List Int) : List Int := row.foldl vis t
theorem trf_len {t row : List Int} (h : t.Nodup) (hp : Pg 40 t) (hr : Pg 40 row) : (trf t row).length ≤ 40 := nodup_len 40 (fold_ok hr hp h).2 (fold_ok hr hp h).1
theorem trf_snoc {t row : List Int} {i : Nat} {p : Int} (h : row[i]? = some p) : trf t (row.take (i + 1)) = vis (trf t (row.take i)) p := by
  unfold trf
  rw [List.take_add_one, h, List.foldl_append]
  rfl
def spTA (K : PySem.W.Frag) : Sp := fun vs H Q _ => ∃ (a : Addr) (ns t : List Int) (v : V), vs = [.ref a, v] ∧ SqL K H a (ns.map V.int) ∧ ns.length ≤ 300 ∧ Pg 40 ns ∧ Start K H v t ∧ t.Nodup ∧ Pg 40 t ∧ ∀ r H', H r = none → Ex H H' → H' r = some (.lst ((trf t ns).map V.int)) → Q (.ref r) H'
def JTA (H : Hp) (a : Addr) (v : V) (t ns : List Int) (i : Nat) (σ' : L2.St) (H' : Hp) : Prop := ∃ l2 r, σ' = [some (.ref a), some v, l2, some (.ref r)] ∧ H r = none ∧ Ex H H' ∧ H' r = some (.lst ((trf t (ns.take i)).map V.int))
theorem ok_trail_after (T : Txt K mg) : FnOk P w K mg base CX0 5 T.f_trail_after T.fd_trail_after ["visits", "start"] (spTA K) := by
  refine T.F_trail_after.ok sc_trail_after (fun vs H Q E h => ?_) (fun cdv A outer s H vs Q E hr h => ?_)
  · obtain ⟨a, ns, t, v, rfl, _⟩ := h
    rfl
  · obtain ⟨a, ns, t, v, rfl, hA, hl, hp, hs, tn, tp, k⟩ := h
    apply Exists.intro
    apply And.intro
    · apply pss_cons
      · exact (ps_expr (pe_callS (ok_check_visits T) (hr.mono (by decide)) (by rfl) T.m_check_visits T.F_check_visits.kp T.b_check_visits (fun σ => passAt takes0 σ) (pa_cons (pv 0) pa_nil)))
      apply pss_cons
      · apply ps_if
        · exact (pt_cmpR op_isN (pv 1) pe_non (by rfl))
        · apply pss_one
          exact (ps_set (i := 3) sc_trail_after.nd rfl (.inl rfl) (pe_lst pa_nil))
        · apply pss_cons
          · exact (ps_expr (pe_call (ok_check_trail T) (hr.mono (by decide)) (by rfl) T.m_check_trail T.F_check_trail.kp T.b_check_trail .nil pass0 (pa_cons (pv 1) pa_nil)))
          apply pss_one
          exact (ps_set (i := 3) sc_trail_after.nd rfl (.inl rfl) (pe_callTy (k_listOf (K := K) rfl) (by rfl) T.n_list (by decide +kernel) (pa_cons (pv 1) pa_nil)))
      apply pss_cons
      · apply ps_for PassesOwn.never rfl
        · exact (k_pi_list (K := K) rfl (pv 0))
        · exact (pg_name (i := 2) sc_trail_after.nd rfl (.inl rfl))
        · apply pss_one
          exact (ps_set (i := 3) sc_trail_after.nd rfl (.inl rfl) (pe_call (ok_visited T) (hr.mono (by decide)) (by rfl) T.m_visited T.F_visited.kp T.b_visited .nil pass0 (pa_cons (pv 3) (pa_cons (pv 2) pa_nil))))
      apply pss_one
      exact (ps_ret (pv 3))
    refine seq_cut (fun σ' H' => σ' = [some (.ref a), some v, none, none] ∧ Ex H H') (fun N hN => ?_) (fun σ' H1 hC => ?_)
    · walk_at "sx"
      exact ⟨.ref a, _, rfl, .lst hA (de_ints ns), fun _ H1 e1 => hN _ _ ⟨rfl, e1⟩, fun c' => by rw [vis_ints hl hp] at c'; cases c'⟩
    obtain ⟨rfl, e1⟩ := hC
    refine seq_cut (fun σ' H' => ∃ r, σ' = [some (.ref a), some v, none, some (.ref r)] ∧ H r = none ∧ Ex H H' ∧ H' r = some (.lst (t.map V.int))) (fun N hN => ?_) (fun σ' H' hC => ?_)
    · rcases hs with ⟨rfl, rfl⟩ | ⟨s, rfl, hs⟩
      · walk_at "sx"
        refine ⟨sz_ok (by omega), fun r nr => ?_⟩
        exact hN _ _ ⟨r, rfl, fresh_back e1 nr, e1.trans (Ex.new nr), upd_same⟩
      · walk_at "sx"
        refine ⟨s, t, rfl, ex_l e1 hs, tn, tp, fun H2 e2 => ?_⟩
        walk_at "sx"
        refine ⟨s, _, rfl, .inl (ex_l (e1.trans e2) hs), fun r nr => ?_⟩
        exact hN _ _ ⟨r, rfl, fresh_back (e1.trans e2) nr, (e1.trans e2).trans (Ex.new nr), upd_same⟩
    obtain ⟨r, rfl, nr, e2, hr⟩ := hC
    walk_at "sx"
    refine ⟨⟨_, ex_l e2 hA⟩, ?_⟩
    refine lg_list (xs := ns.map V.int) (JTA H a v t ns) ⟨none, r, rfl, nr, e2, hr⟩ (fun i σ' H' _ hP => by obtain ⟨_, _, _, _, e, _⟩ := hP; exact ex_l e hA)
      (fun i x σ' H' hx hP => ?_) (fun σ' H' hP => ?_)
    · obtain ⟨l2, r, rfl, nr, e, hr⟩ := hP
      obtain ⟨n, hn, rfl⟩ := ints_at hx
      have tl := trf_len tn tp (hp.take i)
      walk_at "sx"
      refine ⟨r, _, n, rfl, hr, by omega, fun q H1 nq e3 hq => ?_⟩
      exact ⟨_, q, rfl, fresh_back e nq, e.trans e3, by rw [hq, trf_snoc hn]⟩
    · obtain ⟨l2, r, rfl, nr, e, hr⟩ := hP
      walk_at "sx"
      refine k r _ nr e ?_
      rw [hr, List.length_map, List.take_of_length_le (Nat.le_refl _)]
def spAl (K : PySem.W.Frag) : SpG := fun vs H Q _ => ∃ (a : Addr) (ns : List Int), vs = [.ref a] ∧ SqL K H a (ns.map V.int) ∧ ns.length ≤ 300 ∧ Pg 40 ns ∧
  ∀ (rs : List Addr) H', rs.length = ns.length → Ex H H' → (∀ i r, rs[i]? = some r → H r = none ∧ H' r = some (.lst ((trl (ns.take (i + 1))).map V.int))) → Q (rs.map V.ref) H'
def JAl (H H3 : Hp) (a : Addr) (ns : List Int) (i : Nat) (ys : List V) (σ' : L2.St) (H' : Hp) : Prop := ∃ t l2 rs, σ' = [some (.ref a), some (.ref t), l2] ∧ ys = (rs : List Addr).map V.ref ∧ rs.length = i ∧ Ex H3 H' ∧ H' t = some (.lst ((trl (ns.take i)).map V.int)) ∧
  ∀ j r, rs[j]? = some r → H r = none ∧ H' r = some (.lst ((trl (ns.take (j + 1))).map V.int))
theorem ok_trails_along (T : Txt K mg) : GFn P w K mg base 5 T.f_trails_along T.fd_trails_along ["visits"] (spAl K) := by
  refine Fun.gok T.F_trails_along sc_trails_along (fun vs H Q E h => ?_) (fun cdv A outer s H vs Q E pn hr h => ?_)
  · obtain ⟨a, ns, rfl, _⟩ := h
    rfl
  · obtain ⟨a, ns, rfl, hA, hl, hp, k⟩ := h
    apply Exists.intro
    apply And.intro
    · exact (gss_cons (gs_ps (ps_expr (pe_callS (ok_check_visits T) (hr.mono (by decide)) (by rfl) T.m_check_visits T.F_check_visits.kp T.b_check_visits (fun σ => passAt takes0 σ) (pa_cons (pv 0) pa_nil)))) (gss_cons (gs_ps (ps_set (i := 1) sc_trails_along.nd rfl (.inl rfl) (pe_lst pa_nil))) (gss_cons (gs_for owns_gcx rfl (k_pi_list (K := K) rfl (pe_callTy (k_listOf (K := K) rfl) (by rfl) T.n_list (by decide +kernel) (pa_cons (pv 0) pa_nil))) (pg_name (i := 2) sc_trails_along.nd rfl (.inl rfl)) (gss_cons (gs_ps (ps_set (i := 1) sc_trails_along.nd rfl (.inl rfl) (pe_call (ok_visited T) (hr.mono (by decide)) (by rfl) T.m_visited T.F_visited.kp T.b_visited .nil pass0 (pa_cons (pv 1) (pa_cons (pv 2) pa_nil))))) (gss_cons (gs_yield (pe_callTy (k_listOf (K := K) rfl) (by rfl) T.n_list (by decide +kernel) (pa_cons (pv 1) pa_nil))) gss_nil))) gss_nil)))

    walk_at "sx"
    refine ⟨.ref a, _, rfl, .lst hA (de_ints ns), fun _ H1 e1 => ?_, fun c' => by rw [vis_ints hl hp] at c'; cases c'⟩
    refine ⟨sz_ok (by omega), fun t nt => ?_⟩
    have e2 := e1.trans (Ex.new nt (o := .lst []))
    refine ⟨a, _, rfl, .inl (ex_l e2 hA), fun q nq => ?_⟩
    have eq1 := Ex.new nq (o := .lst (ns.map V.int))
    have e3 := e2.trans eq1
    have ht := eq1 _ _ (upd_same (H := H1) (a := t) (o := .lst []))
    have hq : (upd (upd H1 t (.lst [])) q (.lst (ns.map V.int))) q = some (.lst (ns.map V.int)) := upd_same
    generalize (upd (upd H1 t (.lst [])) q (.lst (ns.map V.int))) = H3 at e3 ht hq ⊢
    refine ⟨q, rfl, ⟨_, .inl (.inl hq)⟩, ?_⟩
    refine lgg_list (xs := ns.map V.int) (JAl H H3 a ns) ⟨t, none, [], rfl, rfl, rfl, Ex.refl _, ht, fun j r e => by simp at e⟩ (fun i ys σ' H' _ hP => by obtain ⟨_, _, _, _, _, _, e, _⟩ := hP; exact .inl (.inl (e _ _ hq)))
      (fun i x ys σ' H' hx hP => ?_) (fun ys σ' H' hP => ?_)
    · obtain ⟨t, l2, rs, rfl, rfl, rl, e, ht, hr⟩ := hP
      obtain ⟨n, hn, rfl⟩ := ints_at hx
      have hi := (List.getElem?_eq_some_iff.mp hn).1
      have tl := trl_len (n := 40) (hp.take i)
      walk_at "sx"
      refine ⟨t, _, n, rfl, ht, by omega, fun q2 H4 nq2 e4 hq2 => ?_⟩
      rw [← trl_snoc hn] at hq2
      refine ⟨by rw [List.length_map, rl]; exact Nat.lt_of_lt_of_le hi (Nat.le_trans hl (by decide)), ?_⟩
      refine ⟨q2, _, rfl, .inl (.inl (.inl hq2)), fun c nc => ?_⟩
      have ec := Ex.new nc (o := .lst ((trl (ns.take (i + 1))).map V.int))
      have e5 := (e.trans e4).trans ec
      refine ⟨q2, _, rs ++ [c], rfl, by rw [List.map_append]; rfl, by rw [List.length_append, rl]; rfl, e5, ec _ _ hq2, fun j r hj => ?_⟩
      by_cases hjl : j < rs.length
      · rw [List.getElem?_append_left hjl] at hj
        obtain ⟨n1, r1⟩ := hr j r hj
        exact ⟨n1, (e4.trans ec) _ _ r1⟩
      · rw [List.getElem?_append_right (by omega)] at hj
        have hj0 : j - rs.length = 0 := by
          have := (List.getElem?_eq_some_iff.mp hj).1
          rw [List.length_singleton] at this
          omega
        rw [hj0] at hj
        have hcr : c = r := by simpa using hj
        subst hcr
        have : j = i := by omega
        subst this
        exact ⟨fresh_back ((e3.trans e).trans e4) nc, upd_same⟩
    · obtain ⟨t, l2, rs, rfl, rfl, rl, e, ht, hr⟩ := hP
      rw [List.length_map] at rl
      exact k rs H' rl (e3.trans e) hr
/-! ### stays and cuts: the visits of new pages, and the others -/
def isNew (ns : List Int) (i : Nat) : Bool := decide (ns.getD i 0 ∉ trl (ns.take i))
def gr (ns : List Int) (i : Nat) : List Nat := (List.range i).filter (isNew ns)
def ctn (ns : List Int) (i : Nat) : List Nat := (List.range i).filter fun j => !isNew ns j
theorem gr_yes {ns : List Int} {i : Nat} (h : isNew ns i = true) : gr ns (i + 1) = gr ns i ++ [i] := by
  unfold gr
  rw [List.range_succ, List.filter_append, List.filter_cons_of_pos h]
  rfl
theorem gr_no {ns : List Int} {i : Nat} (h : isNew ns i = false) : gr ns (i + 1) = gr ns i := by
  unfold gr
  rw [List.range_succ, List.filter_append, List.filter_cons_of_neg (by rw [h]; decide), List.filter_nil, List.append_nil]
theorem ctn_yes {ns : List Int} {i : Nat} (h : isNew ns i = false) : ctn ns (i + 1) = ctn ns i ++ [i] := by
  unfold ctn
  rw [List.range_succ, List.filter_append, List.filter_cons_of_pos (by rw [h]; decide)]
  rfl
theorem ctn_no {ns : List Int} {i : Nat} (h : isNew ns i = true) : ctn ns (i + 1) = ctn ns i := by
  unfold ctn
  rw [List.range_succ, List.filter_append, List.filter_cons_of_neg (by rw [h]; decide), List.filter_nil, List.append_nil]
theorem new_at {ns : List Int} {i : Nat} {p : Int} (h : ns[i]? = some p) : isNew ns i = decide (p ∉ trl (ns.take i)) := by
  unfold isNew
  rw [List.getD_eq_getElem?_getD, h]
  rfl
theorem gr_le (ns : List Int) (i : Nat) : (gr ns i).length ≤ i := by
  have := List.length_filter_le (isNew ns) (List.range i)
  rw [List.length_range] at this
  exact this
theorem ctn_le (ns : List Int) (i : Nat) : (ctn ns i).length ≤ i := by
  have := List.length_filter_le (fun j => !isNew ns j) (List.range i)
  rw [List.length_range] at this
  exact this
/-- tuples that begin with these numbers -/
def Tps (H : Hp) (ts : List Addr) (gs : List Nat) (m : Nat) : Prop := ts.length = gs.length ∧ ∀ j u, ts[j]? = some u → ∃ rest : List V, rest.length = m ∧ H u = some (.tup (V.int (gs.getD j 0 : Nat) :: rest))
theorem Tps.ex {H H' : Hp} {ts : List Addr} {gs : List Nat} {m : Nat} (h : Tps H ts gs m) (e : Ex H H') : Tps H' ts gs m := ⟨h.1, fun j u hj => by
  obtain ⟨r, h1, h2⟩ := h.2 j u hj
  exact ⟨r, h1, e _ _ h2⟩⟩
theorem Tps.mut {H : Hp} {ts : List Addr} {gs : List Nat} {m : Nat} {f : Addr} {xs ys : List V} (h : Tps H ts gs m) (hf : H f = some (.lst xs)) : Tps (upd H f (.lst ys)) ts gs m := ⟨h.1, fun j u hj => by
  obtain ⟨r, h1, h2⟩ := h.2 j u hj
  exact ⟨r, h1, by rw [upd_ne (ne_of h2 hf (by intro z; cases z))]; exact h2⟩⟩
theorem Tps.snoc {H : Hp} {ts : List Addr} {gs : List Nat} {m i : Nat} {u : Addr} {rest : List V} (h : Tps H ts gs m) (hm : rest.length = m) (hu : H u = some (.tup (V.int (i : Nat) :: rest))) : Tps H (ts ++ [u]) (gs ++ [i]) m := by
  refine ⟨by rw [List.length_append, List.length_append, h.1]; rfl, fun j v hj => ?_⟩
  by_cases hjl : j < ts.length
  · rw [List.getElem?_append_left hjl] at hj
    obtain ⟨r, h1, h2⟩ := h.2 j v hj
    refine ⟨r, h1, ?_⟩
    rw [List.getD_eq_getElem?_getD, List.getElem?_append_left (by rw [← h.1]; exact hjl), ← List.getD_eq_getElem?_getD]
    exact h2
  · rw [List.getElem?_append_right (by omega)] at hj
    have hj0 : j - ts.length = 0 := by
      have := (List.getElem?_eq_some_iff.mp hj).1
      rw [List.length_singleton] at this
      omega
    rw [hj0] at hj
    obtain rfl : u = v := by simpa using hj
    have : j = gs.length := by have := h.1; omega
    subst this
    refine ⟨rest, hm, ?_⟩
    rw [List.getD_eq_getElem?_getD, List.getElem?_append_right (Nat.le_refl _), Nat.sub_self]
    exact hu
theorem Tps.set {H : Hp} {ts : List Addr} {gs : List Nat} {m j : Nat} {u : Addr} {rest : List V} (h : Tps H ts gs m) (hm : rest.length = m) (hu : H u = some (.tup (V.int (gs.getD j 0 : Nat) :: rest))) : Tps H (ts.set j u) gs m := by
  refine ⟨by rw [List.length_set, h.1], fun l v hl => ?_⟩
  rw [List.getElem?_set] at hl
  by_cases e : j = l
  · subst e
    rw [if_pos rfl] at hl
    split at hl
    · obtain rfl : u = v := by simpa using hl
      exact ⟨rest, hm, hu⟩
    · cases hl
  · rw [if_neg e] at hl
    exact h.2 l v hl
end
end LW

set_option Elab.async false
set_option linter.all false
set_option maxRecDepth 100000
set_option maxHeartbeats 4000000
namespace LW
open PySem PySem.Spec PyProof.Rows L2 BC Evl TR EF L2.DX
local macro_rules | `(tactic| walk_at "sx") => `(tactic| try simp only [x_callS, x_callF4, x_lc2, x_callG, x_g0, x_gfor, x_ghead, x_gplain, x_gthen, x_gyield, x_listG, x_lockE, x_lockS, x_daug, x_seq, x_next, x_brk, x_cnt, x_nev, x_ret, x_retN, x_drop, x_ifS, x_asg, x_gn, x_gsub, x_par, x_par3, x_aug, x_for, x_lc, x_rng1, x_rng2, x_rng3, x_ilist, x_itup, x_ienum, x_izip, x_izipA, x_istr, x_var, x_c, x_op, x_un, x_test, x_b, x_chain, x_and, x_or, x_not, x_andV, x_orV, x_notV, x_ife, x_nil, x_cons, x_lst, x_tup, x_cb, x_call, x_callK, x_bm, x_bm0, x_tru, x_sl, x_nopart, x_part, x_revL, x_I0, x_I, x_U, x_ip, x_ipC, x_eqI, x_neI, x_eqB, x_neB, x_eqS, x_neS, x_isB, x_isNB, x_lrg, x_gall, x_lenSet, x_sortSet, x_rg1, x_rg2, x_dnewK, x_dnewT, x_dget, x_dget1, x_dget2, x_din, x_dnotin, x_dput, x_ikeys, x_fld, x_sfld, x_prop, x_meth, x_make, x_dc, x_callO, x_callOK,
  L2.start, List.map_cons, List.map_nil, List.length_cons, List.length_nil, Nat.reduceAdd, Nat.reduceSub, Nat.sub_self, Nat.zero_add, List.replicate, List.replicate_succ, List.replicate_zero, List.append_nil, List.cons_append, List.nil_append, List.set_cons_zero, List.set_cons_succ, List.getElem?_cons_zero, List.getElem?_cons_succ, Option.some.injEq, V.int.injEq, V.bl.injEq, V.ref.injEq, V.str.injEq, List.cons.injEq, and_true, true_and, exists_eq_left', exists_eq_left, exists_and_left, exists_eq, if_true, if_false, ite_true, ite_false, Bool.true_eq_false, Bool.false_eq_true, reduceIte, reduceCtorEq, Bool.not_true, Bool.not_false, decide_true, decide_false, decide_eq_true_eq, Bool.and_true, Bool.true_and, Bool.and_self, Bool.and_false, Bool.false_and, Bool.or_self, Bool.or_false, Bool.false_or, Bool.or_true, Bool.true_or, eq_self])
/-! ### exits.py -/
theorem kept_pairs {P : Int × Int → Bool} {g : Int × Int → Int} : ∀ (qs : List (Int × Int)), kept qs.length (fun i => P (qs.getD i (0, 0))) (fun i => V.int (g (qs.getD i (0, 0)))) = ((qs.filter P).map g).map V.int := fun qs => by
  have h : ∀ n, n ≤ qs.length → kept n (fun i => P (qs.getD i (0, 0))) (fun i => V.int (g (qs.getD i (0, 0)))) = (((qs.take n).filter P).map g).map V.int := fun n => by
    induction n with
    | zero => intro _; rfl
    | succ n ih =>
      intro hn
      have hq : qs[n]? = some (qs.getD n (0, 0)) := by rw [List.getD_eq_getElem?_getD, List.getElem?_eq_getElem (by omega)]; rfl
      rw [List.take_add_one, hq]
      cases c : P (qs.getD n (0, 0)) with
      | true =>
        rw [kept_yes (k := fun i => P (qs.getD i (0, 0))) c, ih (by omega), Option.toList_some, List.filter_append, List.filter_cons_of_pos c, List.filter_nil, List.map_append, List.map_append]
        rfl
      | false =>
        rw [kept_no (k := fun i => P (qs.getD i (0, 0))) c, ih (by omega), Option.toList_some, List.filter_append, List.filter_cons_of_neg (by rw [c]; exact Bool.false_ne_true), List.filter_nil, List.append_nil]
  rw [h _ (Nat.le_refl _), List.take_of_length_le (Nat.le_refl _)]
section
variable {P : Program} {w : World} {K : PySem.W.Frag} {mg : Str → Option Value} {base : Heap}
def firstV : List Int → V
  | [] => .non
  | a :: _ => .int a
/-- an effect stands at x -/
def EffAt (C : Addr) (H : Hp) (x : Addr) (v : V) (qs : List (Int × Int)) : Prop := ∃ dx t d ts, H x = some (.ins C dx [("begin_page", v), ("pairs", .ref t), ("exit_of", .ref d)]) ∧ H t = some (.tup ((ts : List Addr).map V.ref)) ∧ ts.length = qs.length ∧ (∀ i u, ts[i]? = some u → PairAt H u (qs.getD i (0, 0))) ∧ H d = some (.dK (qs.map itK))
theorem EffAt.ex {C : Addr} {H H' : Hp} {x : Addr} {v : V} {qs : List (Int × Int)} (h : EffAt C H x v qs) (e : Ex H H') : EffAt C H' x v qs := by
  obtain ⟨dx, t, d, ts, h1, h2, h3, h4, h5⟩ := h
  exact ⟨dx, t, d, ts, e _ _ h1, e _ _ h2, h3, fun i u hi => e _ _ (h4 i u hi), e _ _ h5⟩
def spExitsIn (K : PySem.W.Frag) : Sp := fun vs H Q _ => ∃ (a : Addr) (row : List Int), vs = [.ref a] ∧ SqL K H a (row.map V.int) ∧ row.length ≤ 6000 ∧ ∀ d H', H d = none → Ex H H' → H' d = some (.dK ((foldP [] row).map itK)) → Q (.ref d) H'
def JXi (H1 : Hp) (a d : Addr) (row : List Int) (i : Nat) (σ' : L2.St) (H' : Hp) : Prop := ∃ l2 l3 qs, σ' = [some (.ref a), some (.ref d), l2, l3] ∧ Fx d H1 H' ∧ H' d = some (.dK ((qs : List (Int × Int)).map itK)) ∧ foldP qs (row.drop i) = foldP [] row ∧ qs.length ≤ i
theorem ok_exits_in (T : Txt K mg) : FnOk P w K mg base CX0 1 T.f_exits_in T.fd_exits_in ["visits"] (spExitsIn K) := by
  refine T.F_exits_in.ok sc_exits_in (fun vs H Q E h => ?_) (fun cdv A outer s H vs Q E hr h => ?_)
  · obtain ⟨a, row, rfl, _⟩ := h
    rfl
  · obtain ⟨a, row, rfl, hA, hl, k⟩ := h
    apply Exists.intro
    apply And.intro
    · apply pss_cons
      · exact (ps_set (i := 1) sc_exits_in.nd rfl (.inl rfl) pe_dnewK)
      apply pss_cons
      · apply ps_for PassesOwn.never rfl
        · exact (k_pi_zipA (K := K) rfl (by rfl) T.n_zip (pa_cons (pv 0) (pa_cons (pe_op op_cat (pe_slice (k_sl_list (K := K) rfl) (pv 0) (po_some pe_int) po_none) (pe_slice (k_sl_list (K := K) rfl) (pv 0) (po_some (pe_un un_neg pe_int)) po_none)) pa_nil)))
        · exact (k_tup (K := K) (n := 2) rfl rfl (pgs_cons (pg_name (i := 2) sc_exits_in.nd rfl (.inl rfl)) (pgs_cons (pg_name (i := 3) sc_exits_in.nd rfl (.inl rfl)) pgs_nil)))
        · apply pss_one
          exact (ps_dput (hu_of hr) (pv 1) (pv 2) (pv 3) rfl)
      apply pss_one
      exact (ps_ret (pv 1))
    walk_at "sx"
    refine fun d nd => ?_
    have e1 := Ex.new nd (o := .dK [])
    refine slL (ex_l e1 hA) fun c nc => ?_
    have e2 := Ex.new nc (o := .lst (cutV (row.map V.int) (some 1) none))
    refine slL (ex_l (e1.trans e2) hA) fun b nb => ?_
    have e3 := Ex.new nb (o := .lst (cutV (row.map V.int) (some (-1)) none))
    refine catL (e3 _ _ upd_same) upd_same (sz_ok (by have h1 := cutV_len (row.map V.int) (some 1) none; have h2 := cutV_len (row.map V.int) (some (-1)) none; rw [List.length_map] at h1 h2; omega)) fun z nz1 => ?_
    have e4 := Ex.new nz1 (o := .lst (cutV (row.map V.int) (some 1) none ++ cutV (row.map V.int) (some (-1)) none))
    have E := e2.trans (e3.trans e4)
    have hd0 := E _ _ (upd_same (H := H) (a := d) (o := .dK []))
    rw [cut_seconds] at E hd0 ⊢
    have hzz : (upd (upd (upd (upd H d (.dK [])) c (.lst (cutV (row.map V.int) (some 1) none))) b (.lst (cutV (row.map V.int) (some (-1)) none))) z (.lst ((seconds row).map V.int))) z = some (.lst ((seconds row).map V.int)) := upd_same
    have hA2 := ex_l (e1.trans E) hA
    generalize (upd (upd (upd (upd H d (.dK [])) c (.lst (cutV (row.map V.int) (some 1) none))) b (.lst (cutV (row.map V.int) (some (-1)) none))) z (.lst ((seconds row).map V.int))) = H1 at E hd0 hzz hA2 ⊢
    have nad : ∀ {f : Addr} {xs : List V}, SqL K H f xs → ∀ H', Fx d H1 H' → SqL K H' f xs := fun h H' fx => by
      rcases h with h | h
      · rcases h with h | ⟨o, h⟩
        · exact .inl (.inl (fx _ _ (ne_of_none h nd) (E _ _ (e1 _ _ h))))
        · exact .inl (.inr ⟨o, fx _ _ (ne_of_none h nd) (E _ _ (e1 _ _ h))⟩)
      · exact .inr h
    have nzd : z ≠ d := ne_of hzz hd0 (by intro z; cases z)
    refine ⟨_, _, ⟨rfl, rfl⟩, _, _, .inl ⟨hA2, .inl (.inl hzz), ?_⟩⟩
    refine lg_zip (xs := row.map V.int) (ys := (seconds row).map V.int) (by rw [List.length_map, List.length_map, seconds_len]) (JXi H1 a d row) ⟨none, none, [], rfl, Fx.refl _ _, hd0, rfl, Nat.le_refl _⟩ (fun i σ' H' hP => ?_) (fun i x y T σ' H' hx hy hP nT => ?_) (fun σ' H' hP => ?_)
    · obtain ⟨_, _, _, _, fx, _⟩ := hP
      exact ⟨nad hA _ fx, .inl (.inl (fx _ _ nzd hzz))⟩
    · obtain ⟨l2, l3, qs, rfl, fx, hd, hf, hq⟩ := hP
      obtain ⟨p, hp, rfl⟩ := ints_at hx
      obtain ⟨q, hq2, rfl⟩ := ints_at hy
      have hi := (List.getElem?_eq_some_iff.mp hp).1
      rw [seconds_at hi] at hq2
      have hpd : row.getD i 0 = p := by rw [List.getD_eq_getElem?_getD, hp]; rfl
      rw [hpd] at hq2
      have eT := Ex.new nT (o := .tup [V.int p, V.int q])
      refine g_two upd_same ?_
      walk_at "sx"
      refine ⟨_, DPut.k (k := Sum.inl p) (eT _ _ hd) (BC.sz_lt (by rw [List.length_map]; omega)), ?_⟩
      refine ⟨_, _, putI qs p q, rfl, (fx.trans (Fx.of eT)).trans Fx.put, by rw [upd_same, putI_put], ?_, Nat.le_trans (putI_len _ _ _) (by omega)⟩
      rw [← hf]
      have ed : row.drop i = p :: row.drop (i + 1) := by rw [List.drop_eq_getElem_cons hi]; congr 1; exact (List.getElem?_eq_some_iff.mp hp).2
      rw [ed]
      show _ = foldP (putI qs p ((row.drop (i + 1)).headD p)) (row.drop (i + 1))
      rw [Option.some.inj hq2]
    · obtain ⟨l2, l3, qs, rfl, fx, hd, hf, hq⟩ := hP
      walk_at "sx"
      rw [List.length_map, List.drop_eq_nil_of_le (Nat.le_refl _)] at hf
      have hf' : qs = foldP [] row := hf
      rw [hf'] at hd
      exact k d _ nd (((Fx.of (e1.trans E)).trans fx).ex nd) hd
/-- pairs of pages -/
def PgP (qs : List (Int × Int)) : Prop := ∀ q ∈ qs, (0 ≤ q.1 ∧ q.1 < 40) ∧ 0 ≤ q.2 ∧ q.2 < 40
def spIsPair (K : PySem.W.Frag) : Sp := fun vs H Q _ => ∃ (t : Addr) (q : Int × Int), vs = [.ref t] ∧ PairAt H t q ∧ (0 ≤ q.1 ∧ q.1 < 40) ∧ (0 ≤ q.2 ∧ q.2 < 40) ∧ ∀ H', Ex H H' → Q (.bl true) H'
theorem ok_is_pair (T : Txt K mg) : FnOk P w K mg base CX0 3 T.f_is_pair T.fd_is_pair ["value"] (spIsPair K) := by
  refine T.F_is_pair.ok sc_is_pair (fun vs H Q E h => ?_) (fun cdv A outer s H vs Q E hr h => ?_)
  · obtain ⟨t, q, rfl, _⟩ := h
    rfl
  · obtain ⟨t, q, rfl, hT, h1, h2, k⟩ := h
    apply Exists.intro
    apply And.intro
    · apply pss_one
      exact (ps_ret (pe_and (pe_callB (k_isi (K := K) rfl) (by rfl) T.n_isinstance (by decide +kernel) (pa_cons (pv 0) (pa_cons (pe_bltn (v := .ty "tuple") (by rfl) T.n_tuple (by decide +kernel) rfl) pa_nil))) (pe_and (pe_cmpR op_eq (pe_callB (k_len (K := K) rfl) (by rfl) T.n_len PySem.boot_len (pa_cons (pv 0) pa_nil)) pe_int (by rfl)) (pe_and (pe_call (ok_is_page T) (hr.mono (by decide)) (by rfl) T.m_is_page T.F_is_page.kp T.b_is_page .nil pass0 (pa_cons (pe_ix (k_ix_tup (K := K) rfl) (pv 0) pe_int (fun _ _ => rfl)) pa_nil)) (pe_one (pe_call (ok_is_page T) (hr.mono (by decide)) (by rfl) T.m_is_page T.F_is_page.kp T.b_is_page .nil pass0 (pa_cons (pe_ix (k_ix_tup (K := K) rfl) (pv 0) pe_int (fun _ _ => rfl)) pa_nil)))))))
    have hT' : H t = some (.tup [.int q.1, .int q.2]) := hT
    walk_at "sx"
    refine isi_x (b := true) (tyx_t (.inl (.inl hT'))) (by decide +kernel) ?_
    walk_at "sx"
    refine lenT (.inl (.inl hT')) ?_
    walk_at "sx"
    refine ⟨t, _, _, _, rfl, rfl, .inl (.inl hT'), atI_n (j := 0) rfl rfl, ?_⟩
    refine ⟨.int q.1, rfl, .int q.1, ?_⟩
    simp only [inR]
    have z1 : (0 : Int) ≤ q.1 := h1.1
    have z2 : q.1 ≤ 39 := by omega
    rw [decide_eq_true z1, decide_eq_true z2]
    walk_at "sx"
    refine ⟨t, _, _, _, rfl, rfl, .inl (.inl hT'), atI_n (j := 1) rfl rfl, ?_⟩
    refine ⟨.int q.2, rfl, .int q.2, ?_⟩
    simp only [inR]
    have z3 : (0 : Int) ≤ q.2 := h2.1
    have z4 : q.2 ≤ 39 := by omega
    rw [decide_eq_true z3, decide_eq_true z4]
    exact k _ (Ex.refl _)
def spLead : Sp := fun vs H Q _ => ∃ (d : Addr) (p r : Int) (qs : List (Int × Int)) (f : Int → Int) (S : Int → Prop), vs = [.ref d, .int p, .int r] ∧ H d = some (.dK (qs.map itK)) ∧ qs.length ≤ 1000 ∧ S p ∧ (∀ x, S x → getI qs x = some (f x) ∧ S (f x)) ∧ ∀ H', Ex H H' → Q (.bl (lead f r qs.length p)) H'
def JLd (H : Hp) (d : Addr) (p r : Int) (n : Nat) (f : Int → Int) (S : Int → Prop) (i : Nat) (σ' : L2.St) (H' : Hp) : Prop := ∃ p' l3, σ' = [some (.ref d), some (.int p'), some (.int r), l3] ∧ H' = H ∧ S p' ∧ lead f r n p = lead f r (n - i) p'
theorem ok_leads_to_root (T : Txt K mg) : FnOk P w K mg base CX0 3 T.f_leads_to_root T.fd_leads_to_root ["exit_of", "page", "root"] spLead := by
  refine T.F_leads_to_root.ok sc_leads_to_root (fun vs H Q E h => ?_) (fun cdv A outer s H vs Q E hr h => ?_)
  · obtain ⟨d, p, r, qs, f, S, rfl, _⟩ := h
    rfl
  · obtain ⟨d, p, r, qs, f, S, rfl, hd, hl, hp, hS, k⟩ := h
    apply Exists.intro
    apply And.intro
    · apply pss_cons
      · apply ps_for PassesOwn.never rfl
        · exact (pi_range1 (by rfl) T.n_range (pa_cons (pe_callB call_lenD (by rfl) T.n_len PySem.boot_len (pa_cons (pv 0) pa_nil)) pa_nil))
        · exact (pg_name (i := 3) sc_leads_to_root.nd rfl (.inl rfl))
        · apply pss_cons
          · apply ps_if
            · exact (pt_cmpR op_eq (pv 1) (pv 2) (by rfl))
            · apply pss_one
              exact (ps_ret pe_bl)
            · exact pss_nil
          apply pss_one
          exact (ps_set (i := 1) sc_leads_to_root.nd rfl (.inl rfl) (pe_dget (hu_of hr) (pv 0) (pv 1) (fun _ _ => rfl)))
      apply pss_one
      exact (ps_ret pe_bl)
    walk_at "sx"
    refine ⟨_, hd, ?_⟩
    rw [List.length_map]
    refine ⟨by omega, by omega, ?_⟩
    rw [Int.toNat_natCast]
    refine lg_rng (JLd H d p r qs.length f S) ⟨p, none, rfl, rfl, hp, rfl⟩ (fun i σ' H' hi hP => ?_) (fun σ' H' hP => ?_)
    · obtain ⟨p', l3, rfl, rfl, hp', hf⟩ := hP
      walk_at "sx"
      obtain ⟨m, hm⟩ : ∃ m, qs.length - i = m + 1 := ⟨qs.length - i - 1, by omega⟩
      rw [hm] at hf
      have hf2 : lead f r qs.length p = (if p' = r then true else lead f r m (f p')) := hf
      by_cases c : p' = r
      · rw [if_pos c] at hf2 ⊢
        have := k _ (Ex.refl _)
        rw [hf2] at this
        exact this
      · rw [if_neg c] at hf2 ⊢
        obtain ⟨g, s⟩ := hS p' hp'
        refine ⟨_, .inl ⟨_, Sum.inl p', .inl hd, rfl, by rw [getI_val, g]; rfl⟩, ?_⟩
        refine ⟨_, _, rfl, rfl, s, ?_⟩
        rw [hf2, show qs.length - (i + 1) = m by omega]
    · obtain ⟨p', l3, rfl, rfl, hp', hf⟩ := hP
      walk_at "sx"
      have := k _ (Ex.refl _)
      rw [hf, Nat.sub_self] at this
      exact this
end
theorem ints_pgp {row : List Int} (hp : Pg 40 row) : PgP (exs row) := fun q hq => by
  obtain ⟨x, y⟩ := q
  obtain ⟨h1, h2⟩ := mem_nx ((mem_exs hp).mp hq)
  exact ⟨hp x h1, hp y h2⟩
def dPair (q : Int × Int) : PyData := .tuple [.int q.1, .int q.2]
def dPairs (qs : List (Int × Int)) : PyData := .list (qs.map dPair)
section
variable {P : Program} {w : World} {K : PySem.W.Frag} {mg : Str → Option Value} {base : Heap}
theorem dp_pairs {H : Hp} : ∀ {ts : List Addr} {qs : List (Int × Int)}, ts.length = qs.length → (∀ (i : Nat) t, ts[i]? = some t → PairAt H t (qs.getD i (0, 0))) → DpAll K H (ts.map V.ref) (qs.map dPair)
  | [], [], _, _ => .nil
  | [], _ :: _, h, _ => by simp at h
  | _ :: _, [], h, _ => by simp at h
  | t :: ts, q :: qs, h, hp => .cons (.tup (.inl (.inl (hp 0 t rfl))) (.cons (.int _) (.cons (.int _) .nil))) (dp_pairs (by simpa using h) fun i u hi => by
    have := hp (i + 1) u (by simpa using hi)
    simpa using this)
theorem pairs_dp {H : Hp} {a : Addr} {ts : List Addr} {qs : List (Int × Int)} (h : PairsAt K H a ts qs) : Dp K H (.ref a) (dPairs qs) := .lst h.1 (dp_pairs h.2.1 h.2.2)
theorem shp_pairs (qs : List (Int × Int)) : SeqAt.shaped (dPairs qs) = true := by
  have h1 : ∀ qs : List (Int × Int), PyData.canLayAll0 (qs.map dPair) = true := fun qs => by
    induction qs with
    | nil => simp [PyData.canLayAll0]
    | cons n ns ih => simp [PyData.canLayAll0, PyData.canLay0, dPair, ih]
  have h2 := dep_all (ds := qs.map dPair) (n := 1) fun d m => by
      obtain ⟨n, hn, rfl⟩ := List.mem_map.mp m
      simp [PyData.depth, PyData.depthAll, dPair]
  show (PyData.canLay0 _ && decide (PyData.depth _ ≤ 64)) = true
  rw [Bool.and_eq_true]
  refine ⟨?_, decide_eq_true ?_⟩
  · unfold dPairs; simp only [PyData.canLay0]; exact h1 qs
  · unfold dPairs; simp only [PyData.depth]; omega
theorem eqPairsNil {H : Hp} {Q : VK} {a b : Addr} {ts : List Addr} {qs : List (Int × Int)} (h : PairsAt K H a ts qs) (hb : H b = some (.lst [])) (q : Q (.bl (decide (qs = []))) H) : rEqD K (.ref a) (.ref b) H Q := by
  refine ⟨_, .list [], pairs_dp h, .lst (.inl (.inl hb)) .nil, shp_pairs qs, rfl, ?_⟩
  have e : PyData.eqv (dPairs qs) (.list []) = decide (qs = []) := by
    cases qs with
    | nil => rfl
    | cons q qs => simp [dPairs, PyData.eqv, PyData.eqvAll]
  rw [e]
  exact q
theorem pr_ev {H : Hp} {t : Addr} {q : Int × Int} (h : PairAt H t q) : H t = some (.tup [V.int q.1, V.int q.2]) := h
def spAreExits (K : PySem.W.Frag) : Sp := fun vs H Q _ => ∃ (a : Addr) (ts : List Addr) (row : List Int), vs = [.ref a] ∧ PairsAt K H a ts (exs row) ∧ Pg 40 row ∧ row ≠ [] ∧ ∀ H', Ex H H' → Q (.bl true) H'
theorem ok_are_exits (T : Txt K mg) : FnOk P w K mg base CX0 4 T.f_are_exits T.fd_are_exits ["value"] (spAreExits K) := by
  refine T.F_are_exits.ok sc_are_exits (fun vs H Q E h => ?_) (fun cdv A outer s H vs Q E hr h => ?_)
  · obtain ⟨a, ts, row, rfl, _⟩ := h
    rfl
  · obtain ⟨a, ts, row, rfl, hA, hp, hne, k⟩ := h
    apply Exists.intro
    apply And.intro
    · apply pss_cons
      · apply ps_if
        · exact (PW.pt (pw_or (pt_not (pt_val (pe_callB (k_isi (K := K) rfl) (by rfl) T.n_isinstance (by decide +kernel) (pa_cons (pv 0) (pa_cons (pe_bltn (v := .ty "list") (by rfl) T.n_list (by decide +kernel) rfl) pa_nil))))) (pw_or (pt_cmpR (k_eqD (K := K) rfl hr.units) (pv 0) (pe_lst pa_nil) (by rfl)) (pw_or1 (pt_not (pt_val (pe_callB (k_all (K := K) rfl rfl) (by rfl) T.n_all (by decide +kernel) (pa_cons (pe_lc (own := [("pair", 6)]) rfl sc_are_exits.nd (k_pi_list (K := K) rfl (pv 0)) (blkOk_by (own := [("pair", 6)]) (N := ["value", "pages", "roots", "exit_of", "page", "later", "pair", "other"]) (sc := defScope s_are_exits) (by decide +kernel)) (fun _ _ _ _ _ => by exact (pg_name (i := 6) sc_are_exits.nd rfl (.inl rfl))) (fun _ _ _ _ _ => by exact pts_nil) (fun _ _ _ _ _ => by exact (pe_call (ok_is_pair T) (hr.mono (by decide)) (by rfl) T.m_is_pair T.F_is_pair.kp T.b_is_pair .nil pass0 (pa_cons (pv 6) pa_nil)))) pa_nil))))))))
        · apply pss_one
          exact (ps_ret pe_bl)
        · exact pss_nil
      apply pss_cons
      · exact (ps_setLc (i := 1) (own := [("page", 4), ("later", 5)]) rfl sc_are_exits.nd rfl rfl (sw_true rfl rfl rfl (by decide +kernel)) (k_pi_list (K := K) rfl (pv 0)) (blkOk_by (own := [("page", 4), ("later", 5)]) (N := ["value", "pages", "roots", "exit_of", "page", "later", "pair", "other"]) (sc := defScope s_are_exits) (by decide +kernel)) (fun _ _ _ _ _ => by exact (k_tup (K := K) (n := 2) rfl rfl (pgs_cons (pg_name (i := 4) sc_are_exits.nd rfl (.inl rfl)) (pgs_cons (pg_name (i := 5) sc_are_exits.nd rfl (.inl rfl)) pgs_nil)))) (fun _ _ _ _ _ => by exact pts_nil) (fun _ _ _ _ _ => by exact (pv 4)))
      apply pss_cons
      · exact (ps_set (i := 2) sc_are_exits.nd rfl (.inr rfl) (pe_lc (own := [("page", 4), ("later", 5)]) rfl sc_are_exits.nd (k_pi_list (K := K) rfl (pv 0)) (blkOk_by (own := [("page", 4), ("later", 5)]) (N := ["value", "pages", "roots", "exit_of", "page", "later", "pair", "other"]) (sc := defScope s_are_exits) (by decide +kernel)) (fun _ _ _ _ _ => by exact (k_tup (K := K) (n := 2) rfl rfl (pgs_cons (pg_name (i := 4) sc_are_exits.nd rfl (.inl rfl)) (pgs_cons (pg_name (i := 5) sc_are_exits.nd rfl (.inl rfl)) pgs_nil)))) (fun _ _ _ _ _ => by exact (pts_one (pt_cmpR op_eq (pv 4) (pv 5) (by rfl)))) (fun _ _ _ _ _ => by exact (pv 4))))
      apply pss_cons
      · apply ps_if
        · exact (PW.pt (pw_or (pt_cmpR op_ne (pe_callB (k_len (K := K) rfl) (by rfl) T.n_len PySem.boot_len (pa_cons (pv 2) pa_nil)) pe_int (by rfl)) (pw_or1 (pt_val (pe_callB (k_any (K := K) rfl rfl) (by rfl) T.n_any (by decide +kernel) (pa_cons (pe_lc (own := [("page", 4), ("other", 7)]) rfl sc_are_exits.nd (k_pi_zipA (K := K) rfl (by rfl) T.n_zip (pa_cons (pv 1) (pa_cons (pe_slice (k_sl_list (K := K) rfl) (pv 1) (po_some pe_int) po_none) pa_nil))) (blkOk_by (own := [("page", 4), ("other", 7)]) (N := ["value", "pages", "roots", "exit_of", "page", "later", "pair", "other"]) (sc := defScope s_are_exits) (by decide +kernel)) (fun _ _ _ _ _ => by exact (k_tup (K := K) (n := 2) rfl rfl (pgs_cons (pg_name (i := 4) sc_are_exits.nd rfl (.inl rfl)) (pgs_cons (pg_name (i := 7) sc_are_exits.nd rfl (.inl rfl)) pgs_nil)))) (fun _ _ _ _ _ => by exact pts_nil) (fun _ _ _ _ _ => by exact (pe_cmpR op_ge (pv 4) (pv 7) (by rfl)))) pa_nil))))))
        · apply pss_one
          exact (ps_ret pe_bl)
        · exact pss_nil
      apply pss_cons
      · exact (ps_set (i := 3) sc_are_exits.nd rfl (.inr rfl) (pe_callTy (k_dictP (K := K) rfl rfl) (by rfl) T.n_dict (by decide +kernel) (pa_cons (pv 0) pa_nil)))
      apply pss_cons
      · apply ps_if
        · exact (pt_not (pt_val (pe_callB (k_all (K := K) rfl rfl) (by rfl) T.n_all (by decide +kernel) (pa_cons (pe_lc (own := [("page", 4), ("later", 5)]) rfl sc_are_exits.nd (k_pi_list (K := K) rfl (pv 0)) (blkOk_by (own := [("page", 4), ("later", 5)]) (N := ["value", "pages", "roots", "exit_of", "page", "later", "pair", "other"]) (sc := defScope s_are_exits) (by decide +kernel)) (fun _ _ _ _ _ => by exact (k_tup (K := K) (n := 2) rfl rfl (pgs_cons (pg_name (i := 4) sc_are_exits.nd rfl (.inl rfl)) (pgs_cons (pg_name (i := 5) sc_are_exits.nd rfl (.inl rfl)) pgs_nil)))) (fun _ _ _ _ _ => by exact pts_nil) (fun _ _ _ _ _ => by exact (pe_cmp (pc_din (hu_of hr) (pv 5) (pv 3)) rfl))) pa_nil))))
        · apply pss_one
          exact (ps_ret pe_bl)
        · exact pss_nil
      apply pss_one
      exact (ps_ret (pe_callB (k_all (K := K) rfl rfl) (by rfl) T.n_all (by decide +kernel) (pa_cons (pe_lc (own := [("page", 4)]) rfl sc_are_exits.nd (k_pi_list (K := K) rfl (pv 1)) (blkOk_by (own := [("page", 4)]) (N := ["value", "pages", "roots", "exit_of", "page", "later", "pair", "other"]) (sc := defScope s_are_exits) (by decide +kernel)) (fun _ _ _ _ _ => by exact (pg_name (i := 4) sc_are_exits.nd rfl (.inl rfl))) (fun _ _ _ _ _ => by exact pts_nil) (fun _ _ _ _ _ => by exact (pe_call (ok_leads_to_root T) (hr.mono (by decide)) (by rfl) T.m_leads_to_root T.F_leads_to_root.kp T.b_leads_to_root .nil pass0 (pa_cons (pv 3) (pa_cons (pv 4) (pa_cons (pe_ix (k_ix_list (K := K) rfl) (pv 2) pe_int (fun _ _ => rfl)) pa_nil)))))) pa_nil)))
    have hl40 := exs_len40 row
    have ltq := hA.2.1
    have nex : exs row ≠ [] := fun e => by
      have := (mem_exs hp).mpr (nx_lst hne)
      rw [e] at this
      exact List.not_mem_nil this
    have hpgp := ints_pgp hp
    have hget : ∀ i, i < (exs row).length → (exs row)[i]? = some ((exs row).getD i (0, 0)) := fun i hi => by rw [List.getD_eq_getElem?_getD, List.getElem?_eq_getElem hi]; rfl
    refine seq_cut (fun σ' H' => σ' = [some (.ref a), none, none, none, none, none, none, none] ∧ Ex H H') (fun N hN => ?_) (fun σ1 H1 hC => ?_)
    · walk_at "sx"
      refine isi_x (b := true) (tyx_l hA.1) (by decide +kernel) ?_
      walk_at "sx"
      refine ⟨sz_ok (by omega), fun z nz1 => ?_⟩
      have ez := Ex.new nz1 (o := .lst [])
      refine eqPairsNil (hA.ex ez) upd_same ?_
      rw [decide_eq_false nex]
      walk_at "sx"
      have hA1 := hA.ex ez
      refine ⟨⟨_, hA1.1⟩, fun D nD => ?_⟩
      refine lc_list (xs := ts.map V.ref) (fun _ => true) (fun _ => V.bl true) hA1.1 nD (by rw [List.length_map]; omega) (fun u => rfl) (fun i x _ => tyes) (fun i x hx _ => ?_) (fun H2 e2 hD => ?_)
      · obtain ⟨t, ht, rfl⟩ := refs_at hx
        have hi := (List.getElem?_eq_some_iff.mp ht).1
        have hq := hpgp _ (List.mem_of_getElem? (hget i (by omega)))
        refine ev_call (vs := [.ref t]) (ea_cons (ev_var rfl) ea_nil) (fun H3 e3 Q3 q3 E3 => ⟨t, (exs row).getD i (0, 0), rfl, e3 _ _ (hA1.2.2 i t ht), hq.1, hq.2, fun H' e' => q3 H' e'⟩)
      · rw [kept_const] at hD
        have e5 : List.replicate (ts.map V.ref).length (V.bl true) = (List.replicate ts.length true).map V.bl := by rw [List.map_replicate, List.length_map]
        rw [e5] at hD
        refine allL (.inl (.inl hD)) ?_
        rw [all_true]
        walk_at "sx"
        exact hN _ _ ⟨rfl, ez.trans e2⟩
    obtain ⟨rfl, e1⟩ := hC
    have hA1 := hA.ex e1
    refine seq_cut (fun σ' H' => ∃ b, σ' = [some (.ref a), some (.ref b), none, none, none, none, none, none] ∧ Ex H1 H' ∧ H' b = some (.lst (((exs row).map (·.1)).map V.int))) (fun N hN => ?_) (fun σ2 H2 hC => ?_)
    · walk_at "sx"
      refine ⟨⟨_, hA1.1⟩, fun D nD => ?_⟩
      refine lc_pairs (ts := ts) (u := fun i => .int ((exs row).getD i (0, 0)).1) (v := fun i => .int ((exs row).getD i (0, 0)).2) (.inl ⟨rfl, hA1.1⟩) (fun i t ht => hA1.2.2 i t ht) (fun _ => true) (fun i => V.int ((exs row).getD i (0, 0)).1) nD (by omega) (fun u v => rfl) (fun i hi => tyes) (fun i hi _ => ev_var rfl) (fun H2 e2 hD => ?_)
      rw [ltq, kept_pairs (P := fun _ => true) (g := fun q => q.1), List.filter_eq_self.mpr (fun _ _ => rfl)] at hD
      exact hN _ _ ⟨D, rfl, e2, hD⟩
    obtain ⟨b, rfl, e2, hb⟩ := hC
    have hA2 := hA1.ex e2
    refine seq_cut (fun σ' H' => ∃ c, σ' = [some (.ref a), some (.ref b), some (.ref c), none, none, none, none, none] ∧ Ex H2 H' ∧ H' c = some (.lst ([lst row].map V.int))) (fun N hN => ?_) (fun σ3 H3 hC => ?_)
    · walk_at "sx"
      refine ⟨⟨_, hA2.1⟩, fun D nD => ?_⟩
      refine lc_pairs (ts := ts) (u := fun i => .int ((exs row).getD i (0, 0)).1) (v := fun i => .int ((exs row).getD i (0, 0)).2) (.inl ⟨rfl, hA2.1⟩) (fun i t ht => hA2.2.2 i t ht) (fun i => decide (((exs row).getD i (0, 0)).1 = ((exs row).getD i (0, 0)).2)) (fun i => V.int ((exs row).getD i (0, 0)).1) nD (by omega) (fun u v => rfl) (fun i hi => ?_) (fun i hi _ => ev_var rfl) (fun H2 e2 hD => ?_)
      · refine et_is (et_test (ev_op (ev_var rfl) (ev_var rfl) (rv_eq rfl))) ?_
        exact decide_eq_decide.mpr ⟨fun e => V.int.inj e, fun e => congrArg V.int e⟩
      · rw [ltq, kept_pairs (P := fun q => decide (q.1 = q.2)) (g := fun q => q.1)] at hD
        have hr := roots_exs hp hne
        unfold rootsOf at hr
        rw [hr] at hD
        exact hN _ _ ⟨D, rfl, e2, hD⟩
    obtain ⟨c, rfl, e3, hc⟩ := hC
    have hb3 := e3 _ _ hb
    refine seq_cut (fun σ' H' => σ' = [some (.ref a), some (.ref b), some (.ref c), none, none, none, none, none] ∧ Ex H3 H') (fun N hN => ?_) (fun σ4 H4 hC => ?_)
    · walk_at "sx"
      refine lenL (.inl (.inl hc)) ?_
      have z11 : (([lst row].map V.int).length : Int) = 1 := rfl
      rw [z11]
      walk_at "sx"
      refine slL (.inl (.inl hb3)) fun z nz1 => ?_
      have hcd : cutV (((exs row).map (·.1)).map V.int) (some 1) none = (((exs row).map (·.1)).drop 1).map V.int := cut_drop1 _
      rw [hcd]
      have ez := Ex.new nz1 (o := .lst ((((exs row).map (·.1)).drop 1).map V.int))
      refine ⟨_, _, ⟨rfl, rfl⟩, _, _, .inl ⟨.inl (.inl (ez _ _ hb3)), .inl (.inl upd_same), fun D nD => ?_⟩⟩
      refine lc_zipS (xs := ((exs row).map (·.1)).map V.int) (ys := (((exs row).map (·.1)).drop 1).map V.int) (fun _ => true) (fun _ => V.bl false) (.inl (.inl (ez _ _ hb3))) (.inl (.inl upd_same)) (by rw [List.length_map, List.length_map, List.length_drop]; omega) nD (by rw [List.length_map, List.length_drop, List.length_map]; omega) (fun u v => rfl) (fun i x y _ _ => tyes) (fun i x y hx hy _ => ?_) (fun H2 e2 hD => ?_)
      · obtain ⟨p, hp1, rfl⟩ := ints_at hx
        obtain ⟨q, hq1, rfl⟩ := ints_at hy
        rw [List.getElem?_drop, Nat.add_comm 1 i] at hq1
        refine ev_is (ev_op (ev_var rfl) (ev_var rfl) rv_I0) ?_
        have hpq : p < q := by
          have hs := exs_srt row
          rw [List.getElem?_map] at hp1 hq1
          cases c1 : (exs row)[i]? with
          | none => rw [c1] at hp1; cases hp1
          | some g1 =>
            cases c2 : (exs row)[i + 1]? with
            | none => rw [c2] at hq1; cases hq1
            | some g2 =>
              rw [c1] at hp1
              rw [c2] at hq1
              obtain ⟨l1, e1'⟩ := List.getElem?_eq_some_iff.mp c1
              obtain ⟨l2, e2'⟩ := List.getElem?_eq_some_iff.mp c2
              have := List.pairwise_iff_getElem.mp hs i (i + 1) l1 l2 (by omega)
              rw [e1', e2'] at this
              rw [← Option.some.inj hp1, ← Option.some.inj hq1]
              exact this
        show V.bl (decide (p ≥ q)) = V.bl false
        rw [decide_eq_false (by omega)]
      · rw [kept_const] at hD
        have e5 : List.replicate ((((exs row).map (·.1)).drop 1).map V.int).length (V.bl false) = (List.replicate (((exs row).map (·.1)).drop 1).length false).map V.bl := by rw [List.map_replicate, List.length_map]
        rw [e5] at hD
        refine anyL (.inl (.inl hD)) ?_
        have hf : ∀ n, (List.replicate n false).any id = false := fun n => by
          induction n with
          | zero => rfl
          | succ n ih => rw [List.replicate_succ, List.any_cons, ih]; rfl
        rw [hf]
        walk_at "sx"
        exact hN _ _ ⟨rfl, ez.trans e2⟩
    obtain ⟨rfl, e4⟩ := hC
    have hA4 := (hA2.ex e3).ex e4
    have hb4 := e4 _ _ hb3
    have hc4 := e4 _ _ hc
    have ndk : ((exs row).map (·.1)).Nodup := srt_nodup (exs_srt row)
    walk_at "sx"
    refine ⟨a, ts, exs row, rfl, hA4, ndk, fun d nd => ?_⟩
    walk_at "sx"
    have e5 := Ex.new nd (o := .dK ((exs row).map itK))
    have hA5 := hA4.ex e5
    generalize hH5 : upd H4 d (.dK ((exs row).map itK)) = H5 at e5 hA5
    have hd5 : H5 d = some (.dK ((exs row).map itK)) := by rw [← hH5]; exact upd_same
    have gI : ∀ x y, nx row x = some y → getI (exs row) x = some y := fun x y h => (getI_mem ndk).mp ((mem_exs hp).mpr h)
    refine ⟨⟨_, hA5.1⟩, fun D nD => ?_⟩
    refine lc_pairs (ts := ts) (u := fun i => .int ((exs row).getD i (0, 0)).1) (v := fun i => .int ((exs row).getD i (0, 0)).2) (.inl ⟨rfl, hA5.1⟩) (fun i t ht => hA5.2.2 i t ht) (fun _ => true) (fun i => V.bl true) nD (by omega) (fun u v => rfl) (fun i hi => tyes) (fun i hi _ => ?_) (fun H6 e6 hD => ?_)
    · have hm := List.mem_of_getElem? (hget i (by omega))
      obtain ⟨x, y, hxy⟩ : ∃ x y, (exs row).getD i (0, 0) = (x, y) := ⟨_, _, rfl⟩
      rw [hxy] at hm ⊢
      have hy := (mem_nx ((mem_exs hp).mp hm)).2
      obtain ⟨z, hz⟩ := nx_mem hy
      refine ev_is (ev_din (k := Sum.inl y) (ev_var rfl) (ev_var rfl) hd5) ?_
      rw [getI_val, gI y z hz]
      rfl
    · rw [kept_const] at hD
      have e7 : List.replicate ts.length (V.bl true) = (List.replicate ts.length true).map V.bl := by rw [List.map_replicate]
      rw [e7] at hD
      refine allL (.inl (.inl hD)) ?_
      rw [all_true]
      walk_at "sx"
      have hb6 := e6 _ _ (e5 _ _ hb4)
      have hc6 := e6 _ _ (e5 _ _ hc4)
      have hd6 := e6 _ _ hd5
      refine ⟨⟨_, .inl (.inl hb6)⟩, fun D2 nD2 => ?_⟩
      refine lc_list (xs := ((exs row).map (·.1)).map V.int) (fun _ => true) (fun _ => V.bl true) (.inl (.inl hb6)) nD2 (by rw [List.length_map, List.length_map]; omega) (fun u => rfl) (fun i x _ => tyes) (fun i x hx _ => ?_) (fun H7 e8 hD2 => ?_)
      · obtain ⟨p, hp1, rfl⟩ := ints_at hx
        have pr : p ∈ row := by
          obtain ⟨⟨x, y⟩, hq, rfl⟩ := List.mem_map.mp (List.mem_of_getElem? hp1)
          exact (mem_nx ((mem_exs hp).mp hq)).1
        refine ev_call (vs := [.ref d, .int p, .int (lst row)]) (ea_cons (ev_var rfl) (ea_cons (ev_var rfl) (ea_cons (ev_op (ev_var rfl) ev_c (rv_ixL (.inl (.inl hc6)) (atI_n (j := 0) rfl rfl))) ea_nil))) (fun H3 e3 Q3 q3 E3 => ?_)
        refine ⟨d, p, lst row, exs row, nxt row, fun x => x ∈ row, rfl, e3 _ _ hd6, by omega, pr, fun x hx => ?_, fun H' e' => ?_⟩
        · obtain ⟨y, hy⟩ := nx_mem hx
          rw [nxt_at hy]
          exact ⟨gI x y hy, (mem_nx hy).2⟩
        · rw [lead_ok (exs row).length pr (by rw [exs_len hp]; omega)]
          exact q3 H' e'
      · rw [kept_const] at hD2
        have e9 : List.replicate (((exs row).map (·.1)).map V.int).length (V.bl true) = (List.replicate ((exs row).map (·.1)).length true).map V.bl := by rw [List.map_replicate, List.length_map]
        rw [e9] at hD2
        refine allL (.inl (.inl hD2)) ?_
        rw [all_true]
        exact k _ (e1.trans (e2.trans (e3.trans (e4.trans (e5.trans (e6.trans e8))))))
/-! ### class Effect -/
/-- a first page for these visits' exits -/
def Begin (row : List Int) (v : V) : Prop := (row = [] ∧ v = .non) ∨ ∃ p, p ∈ row ∧ v = .int p
theorem begin_first (row : List Int) : Begin row (firstV row) := by
  cases row with
  | nil => exact .inl ⟨rfl, rfl⟩
  | cons a r => exact .inr ⟨a, List.mem_cons_self, rfl⟩
def spInit (C : Addr) (K : PySem.W.Frag) : Sp := fun vs H Q _ => ∃ (x dx a : Addr) (ts : List Addr) (row : List Int) (v : V), vs = [.ref x, v, .ref a] ∧ Begin row v ∧ H x = some (.ins C dx []) ∧ PairsAt K H a ts (exs row) ∧ Pg 40 row ∧ ∀ H', (∀ b o, H b = some o → b ≠ x → H' b = some o) → EffAt C H' x v (exs row) → Q .non H'
theorem flds_all (v : V) (t d : Addr) : putF "exit_of" (V.ref d) (putF "pairs" (V.ref t) (putF "begin_page" v [])) = ([("begin_page", v), ("pairs", V.ref t), ("exit_of", V.ref d)] : List (Str × V)) := by
  have k1 : ¬ (("begin_page" : Str) = "pairs") := by decide +kernel
  have k2 : ¬ (("begin_page" : Str) = "exit_of") := by decide +kernel
  have k3 : ¬ (("pairs" : Str) = "exit_of") := by decide +kernel
  simp [putF, k1, k2, k3]
theorem len_flds1 (v : V) : (putF "begin_page" v ([] : List (Str × V))).length = 1 := rfl
theorem len_flds2 (v u : V) : (putF "pairs" u (putF "begin_page" v ([] : List (Str × V)))).length = 2 := by
  have k1 : ¬ (("begin_page" : Str) = "pairs") := by decide +kernel
  simp [putF, k1]
theorem ok_Effect___init (T : Txt K mg) : FnOk P w K mg base CX0 5 T.f_Effect___init T.fd_Effect___init ["self", "first", "exits"] (spInit T.C_Effect K) := by
  refine T.F_Effect___init.ok sc_Effect___init (fun vs H Q E h => ?_) (fun cdv A outer s H vs Q E hr h => ?_)
  · obtain ⟨x, dx, a, ts, row, v, rfl, _⟩ := h
    rfl
  · obtain ⟨x, dx, a, ts, row, v, rfl, hbg, hx, hA, hp, k⟩ := h
    apply Exists.intro
    apply And.intro
    · apply pss_cons
      · apply ps_if
        · exact (pt_cmpR op_isN (pv 1) pe_non (by rfl))
        · apply pss_one
          exact (ps_set (i := 3) sc_Effect___init.nd rfl (.inl rfl) (pe_and (pe_callB (k_isi (K := K) rfl) (by rfl) T.n_isinstance (by decide +kernel) (pa_cons (pv 2) (pa_cons (pe_bltn (v := .ty "list") (by rfl) T.n_list (by decide +kernel) rfl) pa_nil))) (pe_one (pe_cmpR (k_eqD (K := K) rfl hr.units) (pv 2) (pe_lst pa_nil) (by rfl)))))
        · apply pss_one
          exact (ps_set (i := 3) sc_Effect___init.nd rfl (.inl rfl) (pe_and (pe_call (ok_is_page T) (hr.mono (by decide)) (by rfl) T.m_is_page T.F_is_page.kp T.b_is_page .nil pass0 (pa_cons (pv 1) pa_nil)) (pe_and (pe_call (ok_are_exits T) (hr.mono (by decide)) (by rfl) T.m_are_exits T.F_are_exits.kp T.b_are_exits .nil pass0 (pa_cons (pv 2) pa_nil)) (pe_one (pe_cmp (pc_din (hu_of hr) (pv 1) (pe_callTy (k_dictP (K := K) rfl rfl) (by rfl) T.n_dict (by decide +kernel) (pa_cons (pv 2) pa_nil))) rfl)))))
      apply pss_cons
      · apply ps_if
        · exact (pt_not (pt_val (pv 3)))
        · apply pss_one
          exact ps_never
        · exact pss_nil
      apply pss_cons
      · exact (k_sfld (K := K) rfl (pv 0) (pv 1) rfl)
      apply pss_cons
      · exact (k_sfld (K := K) rfl (pv 0) (pe_callTy (k_tupOf (K := K) rfl) (by rfl) T.n_tuple (by decide +kernel) (pa_cons (pv 2) pa_nil)) rfl)
      apply pss_one
      exact (k_sfld (K := K) rfl (pv 0) (pe_callTy (k_dictP (K := K) rfl rfl) (by rfl) T.n_dict (by decide +kernel) (pa_cons (pv 2) pa_nil)) rfl)
    have ndk : ((exs row).map (·.1)).Nodup := srt_nodup (exs_srt row)
    have hl40 := exs_len40 row
    refine seq_cut (fun σ' H' => σ' = [some (.ref x), some (v), some (.ref a), some (.bl true)] ∧ Ex H H') (fun N hN => ?_) (fun σ1 H1 hC => ?_)
    · rcases hbg with ⟨rfl, rfl⟩ | ⟨p, hpm, rfl⟩
      · have e0 : exs [] = [] := by decide +kernel
        rw [e0] at hA
        walk_at "sx"
        refine isi_x (b := true) (tyx_l hA.1) (by decide +kernel) ?_
        walk_at "sx"
        refine ⟨sz_ok (by omega), fun z nz1 => ?_⟩
        have ez := Ex.new nz1 (o := .lst [])
        refine eqPairsNil (hA.ex ez) upd_same ?_
        exact hN _ _ ⟨rfl, ez⟩
      · have hp0 := hp p hpm
        have z2 : p ≤ 39 := by omega
        walk_at "sx"
        refine ⟨.int p, rfl, .int p, ?_⟩
        simp only [inR]
        rw [decide_eq_true hp0.1, decide_eq_true z2]
        walk_at "sx"
        refine ⟨a, ts, row, rfl, hA, hp, List.ne_nil_of_mem hpm, fun H1 e1 => ?_⟩
        walk_at "sx"
        refine ⟨a, ts, exs row, rfl, hA.ex e1, ndk, fun d nd => ?_⟩
        have e5 := Ex.new nd (o := .dK ((exs row).map itK))
        refine ⟨d, rfl, _, DGet.k (k := Sum.inl p) upd_same, ?_⟩
        obtain ⟨y, hy⟩ := nx_mem (row := row) (p := p) hpm
        have hg : (valV ((exs row).map itK) (Sum.inl p)).isSome = true := by
          rw [valV_itK ndk ((mem_exs hp).mpr hy)]
          rfl
        rw [hg]
        exact hN _ _ ⟨rfl, e1.trans e5⟩
    obtain ⟨rfl, e1⟩ := hC
    have hA1 := hA.ex e1
    have hx1 := e1 _ _ hx
    walk_at "sx"
    refine ⟨_, dx, _, hx1, T.cl_Effect, T.na_Effect_begin_page, by show 0 < 1000; omega, ?_⟩
    have nxa : ∀ {b : Addr} {o : HO}, H1 b = some o → (∀ C dx fs, o ≠ .ins C dx fs) → b ≠ x := fun h1 h2 => ne_of h1 hx1 (h2 _ _ _)
    have hpx : ∀ (fs : List (Str × V)) i t, ts[i]? = some t → PairAt (upd H1 x (.ins T.C_Effect dx fs)) t ((exs row).getD i (0, 0)) := fun fs i t hi => by
      have h := hA1.2.2 i t hi
      have ne : t ≠ x := ne_of (pr_ev h) hx1 (by intro z; cases z)
      unfold PairAt
      rw [upd_ne ne]
      exact h
    have hAx : ∀ fs : List (Str × V), PairsAt K (upd H1 x (.ins T.C_Effect dx fs)) a ts (exs row) := fun fs => by
      refine ⟨?_, hA1.2.1, hpx fs⟩
      rcases hA1.1 with h | h
      · rcases h with h | ⟨o, h⟩
        · exact .inl (.inl (by rw [upd_ne (ne_of h hx1 (by intro z; cases z))]; exact h))
        · exact .inl (.inr ⟨o, by rw [upd_ne (ne_of h hx1 (by intro z; cases z))]; exact h⟩)
      · exact .inr h
    refine ⟨a, _, rfl, .inl ⟨(hAx _).1, fun t nt => ?_⟩⟩
    have hx2 : ∀ fs : List (Str × V), (upd (upd H1 x (.ins T.C_Effect dx fs)) t (.tup (ts.map V.ref))) x = some (.ins T.C_Effect dx fs) := fun fs => by
      have ntx : x ≠ t := ne_of_none upd_same nt
      rw [upd_ne ntx, upd_same]
    refine ⟨_, dx, _, hx2 _, T.cl_Effect, T.na_Effect_pairs, by rw [len_flds1]; omega, ?_⟩
    have ntx : x ≠ t := ne_of_none upd_same nt
    have nt1 : H1 t = none := by rw [upd_ne (Ne.symm ntx)] at nt; exact nt
    -- the heap with the tuple and the fields
    generalize hf2 : putF "pairs" (V.ref t) (putF "begin_page" (v) []) = f2
    have l2 : f2.length = 2 := by rw [← hf2]; exact len_flds2 _ _
    have hG : ∀ b o, b ≠ x → H1 b = some o → (upd (upd (upd H1 x (.ins T.C_Effect dx (putF "begin_page" (v) []))) t (.tup (ts.map V.ref))) x (.ins T.C_Effect dx f2)) b = some o := fun b o nb h => by
      rw [upd_ne nb, upd_ne (ne_of_none h nt1), upd_ne nb]
      exact h
    have hGx : (upd (upd (upd H1 x (.ins T.C_Effect dx (putF "begin_page" (v) []))) t (.tup (ts.map V.ref))) x (.ins T.C_Effect dx f2)) x = some (.ins T.C_Effect dx f2) := upd_same
    have hGt : (upd (upd (upd H1 x (.ins T.C_Effect dx (putF "begin_page" (v) []))) t (.tup (ts.map V.ref))) x (.ins T.C_Effect dx f2)) t = some (.tup (ts.map V.ref)) := by rw [upd_ne (Ne.symm ntx), upd_same]
    generalize (upd (upd (upd H1 x (.ins T.C_Effect dx (putF "begin_page" (v) []))) t (.tup (ts.map V.ref))) x (.ins T.C_Effect dx f2)) = G at hG hGx hGt ⊢
    have hAG : PairsAt K G a ts (exs row) := by
      refine ⟨?_, hA1.2.1, fun i u hi => ?_⟩
      · rcases hA1.1 with h | h
        · rcases h with h | ⟨o, h⟩
          · exact .inl (.inl (hG _ _ (ne_of h hx1 (by intro z; cases z)) h))
          · exact .inl (.inr ⟨o, hG _ _ (ne_of h hx1 (by intro z; cases z)) h⟩)
        · exact .inr h
      · have h := hA1.2.2 i u hi
        exact hG _ _ (ne_of (pr_ev h) hx1 (by intro z; cases z)) h
    refine ⟨a, ts, exs row, rfl, hAG, ndk, fun d nd => ?_⟩
    have ndx : x ≠ d := ne_of_none hGx nd
    refine ⟨_, dx, f2, by rw [upd_ne ndx]; exact hGx, T.cl_Effect, T.na_Effect_exit_of, by rw [l2]; omega, ?_⟩
    refine k _ (fun b o h nb => ?_) ⟨dx, t, d, ts, ?_, ?_, hA1.2.1, fun i u hi => ?_, ?_⟩
    · have h1 := hG b o nb (e1 _ _ h)
      rw [upd_ne nb, upd_ne (ne_of_none h1 nd)]
      exact h1
    · rw [upd_same, ← hf2, flds_all]
    · rw [upd_ne (Ne.symm ntx), upd_ne (ne_of_none hGt nd)]
      exact hGt
    · have h := hAG.2.2 i u hi
      unfold PairAt
      rw [upd_ne (ne_of (pr_ev h) hGx (by intro z; cases z)), upd_ne (ne_of_none (pr_ev h) nd)]
      exact h
    · rw [upd_ne (Ne.symm ndx), upd_same]
theorem lk_pairs (v : V) (t d : Addr) : ([("begin_page", v), ("pairs", V.ref t), ("exit_of", V.ref d)] : List (Str × V)).lookup ("pairs" : Str) = some (.ref t) := by
  have k1 : (("pairs" : Str) == "begin_page") = false := by decide +kernel
  simp [List.lookup, k1]
theorem lk_exit (v : V) (t d : Addr) : ([("begin_page", v), ("pairs", V.ref t), ("exit_of", V.ref d)] : List (Str × V)).lookup ("exit_of" : Str) = some (.ref d) := by
  have k1 : (("exit_of" : Str) == "begin_page") = false := by decide +kernel
  have k2 : (("exit_of" : Str) == "pairs") = false := by decide +kernel
  simp [List.lookup, k1, k2]
theorem lk_begin (v : V) (t d : Addr) : ([("begin_page", v), ("pairs", V.ref t), ("exit_of", V.ref d)] : List (Str × V)).lookup ("begin_page" : Str) = some v := by
  simp [List.lookup]
end
section
variable {P : Program} {w : World} {K : PySem.W.Frag} {mg : Str → Option Value} {base : Heap}
def spFirst (C : Addr) : Sp := fun vs H Q _ => ∃ (x : Addr) (v : V) (qs : List (Int × Int)), vs = [.ref x] ∧ EffAt C H x v qs ∧ Q v H
theorem ok_Effect_first (T : Txt K mg) : FnOk P w K mg base CX0 1 T.f_Effect_first T.fd_Effect_first ["self"] (spFirst T.C_Effect) := by
  refine T.F_Effect_first.ok sc_Effect_first (fun vs H Q E h => ?_) (fun cdv A outer s H vs Q E hr h => ?_)
  · obtain ⟨x, v, qs, rfl, _⟩ := h
    rfl
  · obtain ⟨x, v, qs, rfl, hx, k⟩ := h
    apply Exists.intro
    apply And.intro
    · apply pss_one
      exact (ps_ret (k_fld (K := K) rfl (pv 0) rfl))
    obtain ⟨dx, t, d, ts, h1, h2, h3, h4, h5⟩ := hx
    walk_at "sx"
    exact ⟨_, _, _, h1, T.cl_Effect, T.na_Effect_begin_page, _, lk_begin _ _ _, k⟩
def spExits (C : Addr) : Sp := fun vs H Q _ => ∃ (x : Addr) (v : V) (qs : List (Int × Int)), vs = [.ref x] ∧ EffAt C H x v qs ∧ ∀ l ts H', H l = none → Ex H H' → H' l = some (.lst ((ts : List Addr).map V.ref)) → ts.length = qs.length → (∀ i u, ts[i]? = some u → PairAt H' u (qs.getD i (0, 0))) → Q (.ref l) H'
theorem ok_Effect_exits (T : Txt K mg) : FnOk P w K mg base CX0 1 T.f_Effect_exits T.fd_Effect_exits ["self"] (spExits T.C_Effect) := by
  refine T.F_Effect_exits.ok sc_Effect_exits (fun vs H Q E h => ?_) (fun cdv A outer s H vs Q E hr h => ?_)
  · obtain ⟨x, v, qs, rfl, _⟩ := h
    rfl
  · obtain ⟨x, v, qs, rfl, hx, k⟩ := h
    apply Exists.intro
    apply And.intro
    · apply pss_one
      exact (ps_ret (pe_callTy (k_listOf (K := K) rfl) (by rfl) T.n_list (by decide +kernel) (pa_cons (k_fld (K := K) rfl (pv 0) rfl) pa_nil)))
    obtain ⟨dx, t, d, ts, h1, h2, h3, h4, h5⟩ := hx
    walk_at "sx"
    refine ⟨_, _, _, h1, T.cl_Effect, T.na_Effect_pairs, _, lk_pairs _ _ _, ?_⟩
    refine ⟨t, _, rfl, .inr (.inl (.inl h2)), fun l nl => ?_⟩
    have el := Ex.new nl (o := .lst (ts.map V.ref))
    exact k l ts _ nl el upd_same h3 fun i u hi => el _ _ (h4 i u hi)
def lastV (qs : List (Int × Int)) : V := match rootsOf qs with
  | [] => .non
  | r :: _ => .int r
def spLastE (C : Addr) : Sp := fun vs H Q _ => ∃ (x : Addr) (v : V) (qs : List (Int × Int)), vs = [.ref x] ∧ EffAt C H x v qs ∧ qs.length ≤ 100 ∧ ∀ H', Ex H H' → Q (lastV qs) H'
def spLeaves (C : Addr) : Sp := fun vs H Q _ => ∃ (x : Addr) (v : V) (qs : List (Int × Int)), vs = [.ref x] ∧ EffAt C H x v qs ∧ qs.length ≤ 100 ∧ ∀ l H', H l = none → Ex H H' → H' l = some (.lst ((leavesOf qs).map V.int)) → Q (.ref l) H'
theorem ok_Effect_leaves (T : Txt K mg) : FnOk P w K mg base CX0 1 T.f_Effect_leaves T.fd_Effect_leaves ["self"] (spLeaves T.C_Effect) := by
  refine T.F_Effect_leaves.ok sc_Effect_leaves (fun vs H Q E h => ?_) (fun cdv A outer s H vs Q E hr h => ?_)
  · obtain ⟨x, v, qs, rfl, _⟩ := h
    rfl
  · obtain ⟨x, v, qs, rfl, hx, hq, k⟩ := h
    apply Exists.intro
    apply And.intro
    · apply pss_cons
      · exact (ps_set (i := 1) sc_Effect_leaves.nd rfl (.inr rfl) (pe_dc (own := [("page", 2), ("later", 3)]) rfl sc_Effect_leaves.nd (k_pi_tup (K := K) rfl (k_fld (K := K) rfl (pv 0) rfl)) (blkOk_by (own := [("page", 2), ("later", 3)]) (N := ["self", "used", "page", "later"]) (sc := defScope s_Effect_leaves) (by decide +kernel)) (fun _ _ _ _ _ => by exact (k_tup (K := K) (n := 2) rfl rfl (pgs_cons (pg_name (i := 2) sc_Effect_leaves.nd rfl (.inl rfl)) (pgs_cons (pg_name (i := 3) sc_Effect_leaves.nd rfl (.inl rfl)) pgs_nil)))) (fun _ _ _ _ _ => by exact (pts_one (pt_cmpR op_ne (pv 2) (pv 3) (by rfl)))) (fun _ _ _ _ _ => by exact (pv 3)) (fun _ _ _ _ _ => by exact pe_bl)))
      apply pss_one
      exact (ps_ret (pe_lc (own := [("page", 2), ("later", 3)]) rfl sc_Effect_leaves.nd (k_pi_tup (K := K) rfl (k_fld (K := K) rfl (pv 0) rfl)) (blkOk_by (own := [("page", 2), ("later", 3)]) (N := ["self", "used", "page", "later"]) (sc := defScope s_Effect_leaves) (by decide +kernel)) (fun _ _ _ _ _ => by exact (k_tup (K := K) (n := 2) rfl rfl (pgs_cons (pg_name (i := 2) sc_Effect_leaves.nd rfl (.inl rfl)) (pgs_cons (pg_name (i := 3) sc_Effect_leaves.nd rfl (.inl rfl)) pgs_nil)))) (fun _ _ _ _ _ => by exact (pts_one (pt_cmp (pc_dnotin (hu_of hr) (pv 2) (pv 1))))) (fun _ _ _ _ _ => by exact (pv 2))))
    obtain ⟨dx, t, d, ts, h1, h2, h3, h4, h5⟩ := hx
    refine seq_cut (fun σ' H' => ∃ u kvs l2 l3, σ' = [some (.ref x), some (.ref u), l2, l3] ∧ Ex H H' ∧ H' u = some (.dK kvs) ∧ ∀ y, (valV kvs (Sum.inl y)).isSome = decide (y ∈ usedOf qs)) (fun N hN => ?_) (fun σ1 H1 hC => ?_)
    · walk_at "sx"
      refine ⟨_, _, _, h1, T.cl_Effect, T.na_Effect_pairs, _, lk_pairs _ _ _, ?_⟩
      refine ⟨t, rfl, ⟨_, .inl (.inl h2)⟩, fun D nD => ?_⟩
      refine dcg_tup (K := K) (a := t) (xs := ts.map V.ref) (Pv := fun i H' => Ex H H' ∧ ∃ kvs, H' D = some (.dK kvs) ∧ kvs.length ≤ i ∧ ∀ y, (valV kvs (Sum.inl y)).isSome = decide (y ∈ usedOf (qs.take i))) ⟨Ex.new nD, [], upd_same, Nat.le_refl _, fun y => rfl⟩ (fun i H' _ hP => .inl (.inl (hP.1 _ _ h2))) (fun i z H' hz hP => ?_) (fun H' hP => ?_)
      · obtain ⟨e, kvs, hD, hkl, hk⟩ := hP
        obtain ⟨u, hu, rfl⟩ := refs_at hz
        have hi := (List.getElem?_eq_some_iff.mp hu).1
        have hq : qs[i]? = some (qs.getD i (0, 0)) := by rw [List.getD_eq_getElem?_getD, List.getElem?_eq_getElem (by omega)]; rfl
        have hp := h4 i u hu
        have htk : usedOf (qs.take (i + 1)) = usedOf (qs.take i) ++ (if (qs.getD i (0, 0)).1 = (qs.getD i (0, 0)).2 then [] else [(qs.getD i (0, 0)).2]) := by
          unfold usedOf
          rw [List.take_add_one, hq, Option.toList_some, List.filter_append, List.map_append]
          congr 1
          by_cases c : (qs.getD i (0, 0)).1 = (qs.getD i (0, 0)).2
          · rw [if_pos c, List.filter_cons_of_neg (by rw [decide_eq_true c]; decide)]
            rfl
          · rw [if_neg c, List.filter_cons_of_pos (by rw [decide_eq_false c]; rfl)]
            rfl
        generalize qs.getD i (0, 0) = q at hp htk
        refine g_two (e _ _ (pr_ev hp)) ?_
        refine ⟨by rfl, ?_⟩
        simp only [wipe, List.set_cons_zero, List.set_cons_succ, List.map_cons, List.map_nil, List.foldl_cons, List.foldl_nil]
        walk_at "sx"
        rw [htk]
        by_cases c : q.1 = q.2
        · simp only [c]
          walk_at "sx"
          refine ⟨e, kvs, hD, by omega, fun y => hk y⟩
        · simp only [c]
          walk_at "sx"
          refine ⟨kvs, Sum.inl q.2, rfl, hD, BC.sz_lt (by omega), e.mut nD, _, upd_same, ?_, fun y => ?_⟩
          · have := putK_le kvs (Sum.inl q.2 : Key) (V.bl true)
            omega
          · rw [valV_put]
            by_cases cy : y = q.2
            · rw [if_pos (by rw [cy]), decide_eq_true (by rw [cy]; simp)]
              rfl
            · rw [if_neg (fun z => cy (Sum.inl.inj z)), hk y]
              exact decide_eq_decide.mpr ⟨fun h => List.mem_append_left _ h, fun h => (List.mem_append.mp h).resolve_right (by simpa using cy)⟩
      · obtain ⟨e, kvs, hD, hkl, hk⟩ := hP
        rw [List.length_map, h3, List.take_of_length_le (Nat.le_refl _)] at hk
        exact hN _ _ ⟨D, kvs, _, _, rfl, e, hD, hk⟩
    obtain ⟨u, kvs, l2, l3, rfl, e1, hu, hk⟩ := hC
    walk_at "sx"
    refine ⟨_, _, _, e1 _ _ h1, T.cl_Effect, T.na_Effect_pairs, _, lk_pairs _ _ _, ?_⟩
    refine ⟨t, rfl, ⟨_, .inl (.inl (e1 _ _ h2))⟩, fun D nD => ?_⟩
    refine lc_pairs (ts := ts) (u := fun i => .int (qs.getD i (0, 0)).1) (v := fun i => .int (qs.getD i (0, 0)).2) (.inr ⟨rfl, .inl (.inl (e1 _ _ h2))⟩) (fun i u hi => e1 _ _ (h4 i u hi)) (fun i => !decide ((qs.getD i (0, 0)).1 ∈ usedOf qs)) (fun i => V.int (qs.getD i (0, 0)).1) nD (by omega) (fun u v => rfl) (fun i hi => ?_) (fun i hi _ => ev_var rfl) (fun H2 e2 hD => ?_)
    · refine et_is (et_test (ev_dnotin (k := Sum.inl (qs.getD i (0, 0)).1) (ev_var rfl) (ev_var rfl) hu)) ?_
      rw [hk]
    · rw [h3, kept_pairs (P := fun q => !decide (q.1 ∈ usedOf qs)) (g := fun q => q.1)] at hD
      exact k D _ (fresh_back e1 nD) (e1.trans e2) hD
def spLen (C : Addr) : Sp := fun vs H Q _ => ∃ (x : Addr) (v : V) (qs : List (Int × Int)), vs = [.ref x] ∧ EffAt C H x v qs ∧ Q (.int (qs.length : Nat)) H
theorem ok_Effect___len (T : Txt K mg) : FnOk P w K mg base CX0 1 T.f_Effect___len T.fd_Effect___len ["self"] (spLen T.C_Effect) := by
  refine T.F_Effect___len.ok sc_Effect___len (fun vs H Q E h => ?_) (fun cdv A outer s H vs Q E hr h => ?_)
  · obtain ⟨x, v, qs, rfl, _⟩ := h
    rfl
  · obtain ⟨x, v, qs, rfl, hx, k⟩ := h
    apply Exists.intro
    apply And.intro
    · apply pss_one
      exact (ps_ret (pe_callB (k_len (K := K) rfl) (by rfl) T.n_len PySem.boot_len (pa_cons (k_fld (K := K) rfl (pv 0) rfl) pa_nil)))
    obtain ⟨dx, t, d, ts, h1, h2, h3, h4, h5⟩ := hx
    walk_at "sx"
    refine ⟨_, _, _, h1, T.cl_Effect, T.na_Effect_pairs, _, lk_pairs _ _ _, ?_⟩
    refine lenT (.inl (.inl h2)) ?_
    rw [List.length_map, h3]
    exact k
end
section
variable {P : Program} {w : World} {K : PySem.W.Frag} {mg : Str → Option Value} {base : Heap}
/-- the effect of visits -/
def spEffIn (C : Addr) (K : PySem.W.Frag) : Sp := fun vs H Q _ => ∃ (a : Addr) (row : List Int), vs = [.ref a] ∧ SqL K H a (row.map V.int) ∧ row.length ≤ 6000 ∧ Pg 40 row ∧ ∀ x H', H x = none → Ex H H' → EffAt C H' x (firstV row) (exs row) → Q (.ref x) H'
theorem make_ex {C : Addr} {H H' : Hp} {x dx : Addr} {o1 o2 : HO} (nx : H x = none) (ndx : H dx = none) (h : ∀ b o, (upd (upd H dx o1) x o2) b = some o → b ≠ x → H' b = some o) : Ex H H' := fun b o e => by
  have nb : b ≠ x := ne_of_none e nx
  refine h b o ?_ nb
  rw [upd_ne nb, upd_ne (ne_of_none e ndx)]
  exact e
theorem ok_effect_in (T : Txt K mg) : FnOk P w K mg base CX0 7 T.f_effect_in T.fd_effect_in ["visits"] (spEffIn T.C_Effect K) := by
  refine T.F_effect_in.ok sc_effect_in (fun vs H Q E h => ?_) (fun cdv A outer s H vs Q E hr h => ?_)
  · obtain ⟨a, row, rfl, _⟩ := h
    rfl
  · obtain ⟨a, row, rfl, hA, hl, hp, k⟩ := h
    apply Exists.intro
    apply And.intro
    · apply pss_one
      exact (ps_ret (pe_ifExp (pt_cmpR (k_eqD (K := K) rfl hr.units) (pv 0) (pe_lst pa_nil) (by rfl)) (pe_make T.M_Effect (ok_Effect___init T) (hr.mono (by decide)) (by rfl) T.g_Effect T.b_Effect___init .nil pass0 (pa_cons pe_non (pa_cons (pe_lst pa_nil) pa_nil))) (pe_make T.M_Effect (ok_Effect___init T) (hr.mono (by decide)) (by rfl) T.g_Effect T.b_Effect___init .nil pass0 (pa_cons (pe_ix (k_ix_list (K := K) rfl) (pv 0) pe_int (fun _ _ => rfl)) (pa_cons (pe_callB (cr_sortIt rfl) (by rfl) T.n_sorted (by decide +kernel) (pa_cons (k_bm0 (K := K) rfl (pe_bm0 PySem.F.plainAttrs_dict PySem.F.slot_dict_items PySem.F.type_dict_items mt_items (pe_call (ok_exits_in T) (hr.mono (by decide)) (by rfl) T.m_exits_in T.F_exits_in.kp T.b_exits_in .nil pass0 (pa_cons (pv 0) pa_nil)))) pa_nil)) pa_nil)))))
    walk_at "sx"
    refine ⟨sz_ok (by omega), fun z nz1 => ?_⟩
    have ez := Ex.new nz1 (o := .lst [])
    refine eqInts (ms := []) (ex_l ez hA) (.inl (.inl upd_same)) ?_
    walk_at "sx"
    cases row with
    | nil =>
      rw [if_pos rfl]
      refine ⟨sz_ok (by omega), fun y ny => ?_⟩
      have ey := Ex.new ny (o := .lst [])
      intro x dx n1 n2 n3
      refine ⟨x, dx, y, [], [], _, rfl, begin_first [], upd_same, ⟨.inl (.inl ?_), rfl, fun i t h => by simp at h⟩, pg_nil _, fun H' hk he => ⟨rfl, ?_⟩⟩
      · rw [upd_ne (ne_of_none upd_same n1), upd_ne (ne_of_none upd_same n2)]
        exact upd_same
      · exact k x H' (fresh_back (ez.trans ey) n1) ((ez.trans ey).trans (make_ex (C := T.C_Effect) n1 n2 hk)) he
    | cons p r =>
      rw [if_neg (by simp)]
      refine ixL (ex_l ez hA) (atI_n (j := 0) rfl rfl) ?_
      refine ⟨a, p :: r, rfl, ex_l ez hA, hl, fun d H1 nd e1 hd => ?_⟩
      refine ⟨tyD hd, d, _, rfl, rfl, hd, fun v nv => ?_⟩
      have ev := Ex.new nv (o := itemsO v d)
      refine ⟨v, d, _, rfl, upd_same, ev _ _ hd, fun H2 q ts rs e2 nq hq perm srt hl2 hts => ?_⟩
      have nd0 := foldP_nodup (p :: r) [] List.nodup_nil
      have ers := srt_exs hp perm srt nd0 (foldP_all (p :: r))
      subst ers
      have E := (ez.trans e1).trans (ev.trans e2)
      intro x dx n1 n2 n3
      have es : Ex H2 (upd (upd H2 dx (.own x)) x (.ins T.C_Effect dx [])) := (Ex.new n2).mut n1
      refine ⟨x, dx, q, ts, p :: r, _, rfl, begin_first (p :: r), upd_same, ⟨.inl (.inl (es _ _ hq)), hl2, fun i t hi => es _ _ (hts i t hi).2⟩, hp, fun H' hk he => ⟨rfl, ?_⟩⟩
      exact k x H' (fresh_back E n1) (E.trans (make_ex (C := T.C_Effect) n1 n2 hk)) he
def spEffOf (C : Addr) (K : PySem.W.Frag) : Sp := fun vs H Q _ => ∃ (a : Addr) (row : List Int), vs = [.ref a] ∧ SqL K H a (row.map V.int) ∧ row.length ≤ 300 ∧ Pg 40 row ∧ ∀ x H', H x = none → Ex H H' → EffAt C H' x (firstV row) (exs row) → Q (.ref x) H'
theorem ok_effect_of (T : Txt K mg) : FnOk P w K mg base CX0 8 T.f_effect_of T.fd_effect_of ["visits"] (spEffOf T.C_Effect K) := by
  refine T.F_effect_of.ok sc_effect_of (fun vs H Q E h => ?_) (fun cdv A outer s H vs Q E hr h => ?_)
  · obtain ⟨a, row, rfl, _⟩ := h
    rfl
  · obtain ⟨a, row, rfl, hA, hl, hp, k⟩ := h
    apply Exists.intro
    apply And.intro
    · apply pss_cons
      · exact (ps_expr (pe_callS (ok_check_visits T) (hr.mono (by decide)) (by rfl) T.m_check_visits T.F_check_visits.kp T.b_check_visits (fun σ => passAt takes0 σ) (pa_cons (pv 0) pa_nil)))
      apply pss_one
      exact (ps_ret (pe_call (ok_effect_in T) (hr.mono (by decide)) (by rfl) T.m_effect_in T.F_effect_in.kp T.b_effect_in .nil pass0 (pa_cons (pv 0) pa_nil)))
    walk_at "sx"
    have c := vis_ints hl hp
    refine ⟨.ref a, _, rfl, .lst hA (de_ints row), fun _ H1 e1 => ?_, fun c' => by rw [c] at c'; cases c'⟩
    exact ⟨a, row, rfl, ex_l e1 hA, by omega, hp, fun x H' nx e2 he => k x H' (fresh_back e1 nx) (e1.trans e2) he⟩
end
section
variable {P : Program} {w : World} {K : PySem.W.Frag} {mg : Str → Option Value} {base : Heap}
theorem getI_exs {row : List Int} (hp : Pg 40 row) (x : Int) : getI (exs row) x = nx row x := by
  have nd : ((exs row).map (·.1)).Nodup := srt_nodup (exs_srt row)
  cases c : nx row x with
  | some y => exact (getI_mem nd).mp ((mem_exs hp).mpr c)
  | none =>
    cases c2 : getI (exs row) x with
    | none => rfl
    | some y =>
      have := (mem_exs hp).mp ((getI_mem nd).mpr c2)
      rw [c] at this
      cases this
theorem lk_path (v : V) (t d : Addr) : ([("begin_page", v), ("pairs", V.ref t), ("exit_of", V.ref d)] : List (Str × V)).lookup ("path_from" : Str) = none := by
  have k1 : (("path_from" : Str) == "begin_page") = false := by decide +kernel
  have k2 : (("path_from" : Str) == "pairs") = false := by decide +kernel
  have k3 : (("path_from" : Str) == "exit_of") = false := by decide +kernel
  simp [List.lookup, k1, k2, k3]
theorem nx_in {row : List Int} {x : Int} : (nx row x).isSome = decide (x ∈ row) := by
  by_cases h : x ∈ row
  · obtain ⟨y, hy⟩ := nx_mem h
    rw [hy, decide_eq_true h]; rfl
  · rw [decide_eq_false h]
    cases c : nx row x with
    | none => rfl
    | some y => exact absurd (mem_nx c).1 h
def spPathFrom (C : Addr) : Sp := fun vs H Q _ => ∃ (x : Addr) (p : Int) (row : List Int), vs = [.ref x, .int p] ∧ EffAt C H x (firstV row) (exs row) ∧ Pg 40 row ∧ row.length ≤ 300 ∧ p ∈ row ∧ ∀ l H', H l = none → Ex H H' → H' l = some (.lst ((ch row p).map V.int)) → Q (.ref l) H'
theorem ok_Effect_path_from (T : Txt K mg) : FnOk P w K mg base CX0 1 T.f_Effect_path_from T.fd_Effect_path_from ["self", "page"] (spPathFrom T.C_Effect) := by
  refine T.F_Effect_path_from.ok sc_Effect_path_from (fun vs H Q E h => ?_) (fun cdv A outer s H vs Q E hr h => ?_)
  · obtain ⟨x, p, row, rfl, _⟩ := h
    rfl
  · obtain ⟨x, p, row, rfl, hx, hp, hl, hm, k⟩ := h
    apply Exists.intro
    apply And.intro
    · apply pss_cons
      · exact (ps_set (i := 2) sc_Effect_path_from.nd rfl (.inl rfl) (pe_lst (pa_cons (pv 1) pa_nil)))
      apply pss_cons
      · apply ps_while PassesOwn.never
        · exact (pt_cmpR op_ne (pe_dget (hu_of hr) (k_fld (K := K) rfl (pv 0) rfl) (pe_ix (k_ix_list (K := K) rfl) (pv 2) (pe_un un_neg pe_int) (fun _ _ => rfl)) (fun _ _ => rfl)) (pe_ix (k_ix_list (K := K) rfl) (pv 2) (pe_un un_neg pe_int) (fun _ _ => rfl)) (by rfl))
        · apply pss_one
          exact (ps_expr (k_bm (K := K) rfl (pe_bm PySem.F.plainAttrs_list PySem.F.slot_list_append PySem.F.type_list_append mt_append (pv 2) (pa_cons (pe_dget (hu_of hr) (k_fld (K := K) rfl (pv 0) rfl) (pe_ix (k_ix_list (K := K) rfl) (pv 2) (pe_un un_neg pe_int) (fun _ _ => rfl)) (fun _ _ => rfl)) pa_nil))))
      apply pss_one
      exact (ps_ret (pv 2))
    walk_at "sx"
    refine ⟨sz_ok (by omega), fun z nz1 => ?_⟩
    have ez := Ex.new nz1 (o := .lst [V.int p])
    have hc := ch_len row p
    obtain ⟨t0, ht0⟩ : ∃ t, ch row p = p :: t := by
      obtain ⟨y, hy⟩ := nx_mem hm
      exact ch_hd hy
    refine ⟨fun m σ' H' => ∃ f q, σ' = [some (.ref x), some (.int p), some (.ref z)] ∧ m = (ch row q).length ∧ q ∈ row ∧ Ex H H' ∧ H' z = some (.lst ((f ++ [q] : List Int).map V.int)) ∧ f ++ ch row q = ch row p, ⟨_, [], p, rfl, rfl, hm, ez, upd_same, rfl⟩, fun m σ' H' hW => ?_⟩
    obtain ⟨f, q, rfl, rfl, hq, e, hz, hf⟩ := hW
    have hx1 := hx.ex e
    obtain ⟨dx, t, d, ts, h1, h2, h3, h4, h5⟩ := hx1
    obtain ⟨y, hy⟩ := nx_mem hq
    have hd : ∀ H2, Ex H' H2 → DGet H2 d (.int q) (some (.int y)) := fun H2 e2 => .inl ⟨_, Sum.inl q, .inl (e2 _ _ h5), rfl, by rw [getI_val, getI_exs hp, hy]; rfl⟩
    have hlast : ((f ++ [q]).map V.int)[((f ++ [q]).map V.int).length - 1]? = some (.int q) := by
      rw [List.length_map, List.length_append, List.length_singleton, List.getElem?_map, Nat.add_sub_cancel, List.getElem?_append_right (Nat.le_refl _), Nat.sub_self]
      rfl
    have hfl : f.length + (ch row q).length = (ch row p).length := by rw [← hf, List.length_append]
    obtain ⟨c1, c2⟩ := ch_next hy
    walk_at "sx"
    refine ⟨_, _, _, h1, T.cl_Effect, T.na_Effect_exit_of, _, lk_exit _ _ _, ?_⟩
    refine ixL (.inl (.inl hz)) (atI_last hlast) ?_
    refine ⟨d, rfl, _, hd _ (Ex.refl _), ?_⟩
    refine ixL (.inl (.inl hz)) (atI_last hlast) ?_
    walk_at "sx"
    by_cases cy : y = q
    · rw [decide_eq_true cy, if_neg (by decide)]
      walk_at "sx"
      rw [c1 cy] at hf
      rw [hf] at hz
      exact k z H' nz1 e hz
    · rw [decide_eq_false cy, if_pos (by decide)]
      have c3 := c2 cy
      refine ⟨fun σ2 H2 => ∃ f q2, σ2 = [some (.ref x), some (.int p), some (.ref z)] ∧ (ch row q2).length < (ch row q).length ∧ q2 ∈ row ∧ Ex H H2 ∧ H2 z = some (.lst ((f ++ [q2] : List Int).map V.int)) ∧ f ++ ch row q2 = ch row p, fun σ2 H2 hN => ?_, ?_⟩
      · obtain ⟨f2, q2, rfl, l2, m2, e2, z2, f2'⟩ := hN
        exact ⟨_, l2, rfl, f2, q2, rfl, m2, e2, z2, f2'⟩
      · walk_at "sx"
        refine ⟨tyL hz, ?_⟩
        refine ⟨_, _, _, h1, T.cl_Effect, T.na_Effect_exit_of, _, lk_exit _ _ _, ?_⟩
        refine ixL (.inl (.inl hz)) (atI_last hlast) ?_
        refine ⟨d, rfl, _, hd _ (Ex.refl _), ?_⟩
        refine appL hz (BC.sz_lt (by rw [List.length_map, List.length_append, List.length_singleton]; omega)) ?_
        refine ⟨f ++ [q], y, by rw [c3]; simp, (mem_nx hy).2, e.mut nz1, by rw [upd_same, List.map_append (l₁ := f ++ [q])]; rfl, by rw [← hf, c3, List.append_assoc]; rfl⟩
def spCallE (C : Addr) (K : PySem.W.Frag) : Sp := fun vs H Q _ => ∃ (x a : Addr) (row ns : List Int), vs = [.ref x, .ref a] ∧ EffAt C H x (firstV row) (exs row) ∧ Pg 40 row ∧ row.length ≤ 300 ∧ H a = some (.lst (ns.map V.int)) ∧ ns.Nodup ∧ Pg 40 ns ∧ ∀ l H', H l = none → Ex H H' → H' l = some (.lst ((ef row ns).map V.int)) → Q (.ref l) H'
def JCl (H1 : Hp) (x a : Addr) (row ns : List Int) (i : Nat) (σ' : L2.St) (H' : Hp) : Prop := ∃ j2 j3, σ' = [some (.ref x), some (.ref a), j2, j3] ∧ Ex H1 H' ∧ ∀ q ∈ ns.take i, q ∉ row
theorem ok_Effect___call (T : Txt K mg) : FnOk P w K mg base CX0 5 T.f_Effect___call T.fd_Effect___call ["self", "trail"] (spCallE T.C_Effect K) := by
  refine T.F_Effect___call.ok sc_Effect___call (fun vs H Q E h => ?_) (fun cdv A outer s H vs Q E hr h => ?_)
  · obtain ⟨x, a, row, ns, rfl, _⟩ := h
    rfl
  · obtain ⟨x, a, row, ns, rfl, hx, hp, hl, hA, hn, hpn, k⟩ := h
    apply Exists.intro
    apply And.intro
    · apply pss_cons
      · exact (ps_expr (pe_call (ok_check_trail T) (hr.mono (by decide)) (by rfl) T.m_check_trail T.F_check_trail.kp T.b_check_trail .nil pass0 (pa_cons (pv 1) pa_nil)))
      apply pss_cons
      · apply ps_for PassesOwn.never rfl
        · exact (k_pi_enum (K := K) rfl (by rfl) T.n_enumerate (pa_cons (pv 1) pa_nil))
        · exact (k_tup (K := K) (n := 2) rfl rfl (pgs_cons (pg_name (i := 2) sc_Effect___call.nd rfl (.inl rfl)) (pgs_cons (pg_name (i := 3) sc_Effect___call.nd rfl (.inl rfl)) pgs_nil)))
        · apply pss_one
          apply ps_if
          · exact (pt_cmp (pc_din (hu_of hr) (pv 3) (k_fld (K := K) rfl (pv 0) rfl)))
          · apply pss_one
            exact (ps_ret (pe_op op_cat (pe_slice (k_sl_list (K := K) rfl) (pv 1) po_none (po_some (pv 2))) (pe_meth (pv 0) T.cl_Effect T.m_Effect_path_from (ok_Effect_path_from T) (hr.mono (by decide)) T.b_Effect_path_from .nil pass0 (pa_cons (pv 3) pa_nil))))
          · exact pss_nil
      apply pss_one
      exact (ps_ret (pe_op op_cat (pv 1) (pe_ifExp (pt_cmpR op_isN (k_fld (K := K) rfl (pv 0) rfl) pe_non (by rfl)) (pe_lst pa_nil) (pe_meth (pv 0) T.cl_Effect T.m_Effect_path_from (ok_Effect_path_from T) (hr.mono (by decide)) T.b_Effect_path_from .nil pass0 (pa_cons (k_fld (K := K) rfl (pv 0) rfl) pa_nil)))))
    have hn40 := pg_len hn hpn
    walk_at "sx"
    refine ⟨a, ns, rfl, .inl (.inl hA), hn, hpn, fun H1 e1 => ?_⟩
    have hA1 := e1 _ _ hA
    refine ⟨_, .inl (.inl hA1), ?_⟩
    refine lg_enum (xs := ns.map V.int) (JCl H1 x a row ns) ⟨none, none, rfl, Ex.refl _, fun q hq => by simp at hq⟩ (fun i σ' H' hi hP => by obtain ⟨_, _, _, e, _⟩ := hP; exact .inl (.inl (e _ _ hA1))) (fun i v σ' H' T' hv hP nT => ?_) (fun σ' H' hP => ?_)
    · obtain ⟨j2, j3, rfl, e, h0⟩ := hP
      obtain ⟨p, hp1, rfl⟩ := ints_at hv
      have hi := (List.getElem?_eq_some_iff.mp hp1).1
      have eT := Ex.new nT (o := .tup [V.int (i : Nat), V.int p])
      have E := (e1.trans e).trans eT
      have hx1 := hx.ex E
      have hx2 := hx1
      obtain ⟨dx, t, d, ts, h1, h2, h3, h4, h5⟩ := hx2
      refine g_two upd_same ?_
      walk_at "sx"
      refine ⟨_, _, _, h1, T.cl_Effect, T.na_Effect_exit_of, _, lk_exit _ _ _, ?_⟩
      refine ⟨d, rfl, _, DGet.k (k := Sum.inl p) h5, ?_⟩
      have e0 : (valV ((exs row).map itK) (Sum.inl p)).isSome = decide (p ∈ row) := by
        rw [getI_val, getI_exs hp, ← nx_in]
        cases nx row p <;> rfl
      rw [e0]
      by_cases c : p ∈ row
      · rw [decide_eq_true c, if_pos rfl]
        refine slL (.inl (.inl (eT _ _ (e _ _ hA1)))) fun y ny => ?_
        rw [cut_take, ← List.map_take]
        have ey := Ex.new ny (o := .lst ((ns.take i).map V.int))
        refine ⟨_, _, ey _ _ h1, lk_path _ _ _, ?_⟩
        refine ⟨x, p, row, rfl, hx1.ex ey, hp, hl, c, fun l H3 nl e3 hl3 => ?_⟩
        have hcl := ch_len row p
        refine catL (e3 _ _ upd_same) hl3 (sz_ok (by rw [List.length_map, List.length_map, List.length_take]; omega)) fun u nu => ?_
        have eu := Ex.new nu (o := .lst ((ns.take i).map V.int ++ (ch row p).map V.int))
        refine k u _ (fresh_back (E.trans (ey.trans e3)) nu) ((E.trans (ey.trans e3)).trans eu) ?_
        rw [upd_same, ef_at h0 hp1 c, List.map_append]
      · rw [decide_eq_false c, if_neg (by decide)]
        walk_at "sx"
        refine ⟨_, _, rfl, e.trans eT, fun q hq => ?_⟩
        rw [List.take_add_one, hp1, Option.toList_some] at hq
        rcases List.mem_append.mp hq with h | h
        · exact h0 q h
        · rw [List.mem_singleton.mp h]; exact c
    · obtain ⟨j2, j3, rfl, e, h0⟩ := hP
      rw [List.length_map, List.take_of_length_le (Nat.le_refl _)] at h0
      have E := e1.trans e
      have hx1 := hx.ex E
      have hx2 := hx1
      obtain ⟨dx, t, d, ts, h1, h2, h3, h4, h5⟩ := hx2
      walk_at "sx"
      refine ⟨_, _, _, h1, T.cl_Effect, T.na_Effect_begin_page, _, lk_begin _ _ _, ?_⟩
      have hne := ef_no h0
      cases row with
      | nil =>
        simp only [firstV]
        walk_at "sx"
        refine ⟨sz_ok (by omega), fun y ny => ?_⟩
        have ey := Ex.new ny (o := .lst [])
        refine catL (ey _ _ (e _ _ hA1)) upd_same (sz_ok (by rw [List.length_map]; simp; omega)) fun u nu => ?_
        have eu := Ex.new nu (o := .lst (ns.map V.int ++ []))
        refine k u _ (fresh_back (E.trans ey) nu) ((E.trans ey).trans eu) ?_
        rw [upd_same, hne, List.map_append]
        rfl
      | cons b r =>
        simp only [firstV]
        walk_at "sx"
        refine ⟨_, _, h1, lk_path _ _ _, ?_⟩
        refine ⟨_, _, _, h1, T.cl_Effect, T.na_Effect_begin_page, _, lk_begin _ _ _, ?_⟩
        refine ⟨x, b, b :: r, rfl, hx1, hp, hl, List.mem_cons_self, fun l H3 nl e3 hl3 => ?_⟩
        have hcl := ch_len (b :: r) b
        refine catL (e3 _ _ (e _ _ hA1)) hl3 (sz_ok (by rw [List.length_map, List.length_map]; omega)) fun u nu => ?_
        have eu := Ex.new nu (o := .lst (ns.map V.int ++ (ch (b :: r) b).map V.int))
        refine k u _ (fresh_back (E.trans e3) nu) ((E.trans e3).trans eu) ?_
        rw [upd_same, hne, List.map_append]
        rfl
end
def dF : V → PyData
  | .int i => .int i
  | _ => .none
theorem dBeg {K : PySem.W.Frag} {H : Hp} {row : List Int} {u : V} (h : Begin row u) : Dp K H u (dF u) := by
  rcases h with ⟨_, rfl⟩ | ⟨p, _, rfl⟩
  · exact .non
  · exact .int p
theorem shp_dF (u : V) : SeqAt.shaped (dF u) = true := by
  cases u <;> rfl
theorem eqv_dF {r1 r2 : List Int} {u v : V} (h : Begin r1 u) (g : Begin r2 v) : PyData.eqv (dF u) (dF v) = decide (u = v) := by
  rcases h with ⟨_, rfl⟩ | ⟨p, _, rfl⟩
  · rcases g with ⟨_, rfl⟩ | ⟨q, _, rfl⟩
    · rfl
    · simp [dF, PyData.eqv]
  · rcases g with ⟨_, rfl⟩ | ⟨q, _, rfl⟩
    · simp [dF, PyData.eqv]
    · simp [dF, PyData.eqv]
      rw [Bool.eq_iff_iff]
      simp
theorem shp_tup (qs : List (Int × Int)) : SeqAt.shaped (.tuple (qs.map dPair)) = true := by
  have h1 : ∀ qs : List (Int × Int), PyData.canLayAll0 (qs.map dPair) = true := fun qs => by
    induction qs with
    | nil => simp [PyData.canLayAll0]
    | cons n ns ih => simp [PyData.canLayAll0, PyData.canLay0, dPair, ih]
  have h2 := dep_all (ds := qs.map dPair) (n := 1) fun d m => by
      obtain ⟨n, hn, rfl⟩ := List.mem_map.mp m
      simp [PyData.depth, PyData.depthAll, dPair]
  show (PyData.canLay0 _ && decide (PyData.depth _ ≤ 64)) = true
  rw [Bool.and_eq_true]
  refine ⟨?_, decide_eq_true ?_⟩
  · simp only [PyData.canLay0]; exact h1 qs
  · simp only [PyData.depth]; omega
theorem eqv_all : ∀ qs rs : List (Int × Int), PyData.eqvAll (qs.map dPair) (rs.map dPair) = decide (qs = rs)
  | [], [] => by simp [PyData.eqvAll]
  | [], r :: rs => by simp [PyData.eqvAll]
  | q :: qs, [] => by simp [PyData.eqvAll]
  | q :: qs, r :: rs => by
    have ih := eqv_all qs rs
    rw [List.map_cons, List.map_cons]
    simp only [PyData.eqvAll, ih]
    have e : PyData.eqv (dPair q) (dPair r) = decide (q = r) := by
      obtain ⟨a, b⟩ := q
      obtain ⟨c, d⟩ := r
      simp [dPair, PyData.eqv, PyData.eqvAll]
      rw [Bool.eq_iff_iff]
      simp
    rw [e]
    simp
theorem eqv_tup (qs rs : List (Int × Int)) : PyData.eqv (.tuple (qs.map dPair)) (.tuple (rs.map dPair)) = decide (qs = rs) := by
  simp only [PyData.eqv]
  exact eqv_all qs rs
/-- the exits of visits that go on -/
theorem nx_app {b : Int} {s : List Int} {x : Int} : ∀ r : List Int, nx (r ++ b :: s) x = match nx (b :: s) x with | some y => some y | none => (nx r x).map fun y => if y = x then b else y
  | [] => by
    show nx (b :: s) x = _
    cases nx (b :: s) x <;> rfl
  | a :: r => by
    have ih := nx_app (b := b) (s := s) (x := x) r
    cases c : nx (b :: s) x with
    | some y =>
      rw [c] at ih
      exact nx_some ih
    | none =>
      rw [c] at ih
      cases d : nx r x with
      | some y =>
        rw [d] at ih
        rw [nx_some d]
        exact nx_some ih
      | none =>
        rw [d] at ih
        show nx (a :: (r ++ b :: s)) x = (nx (a :: r) x).map _
        rw [nx_none ih, nx_none d]
        by_cases e : a = x
        · rw [if_pos e, if_pos e]
          cases r with
          | nil =>
            show some b = some (if a = x then b else a)
            rw [if_pos e]
          | cons c2 r' =>
            have nc : ¬ c2 = x := fun z => by
              obtain ⟨y, hy⟩ := nx_mem (row := c2 :: r') (p := x) (by rw [← z]; exact List.mem_cons_self)
              rw [hy] at d
              cases d
            show some c2 = some (if c2 = x then b else c2)
            rw [if_neg nc]
        · rw [if_neg e, if_neg e]
          rfl
section
variable {P : Program} {w : World} {K : PySem.W.Frag} {mg : Str → Option Value} {base : Heap}
def spEqE (C : Addr) (K : PySem.W.Frag) : Sp := fun vs H Q _ => ∃ (x : Addr) (y u : V) (row : List Int), vs = [.ref x, y] ∧ EffAt C H x u (exs row) ∧ Pg 40 row ∧ Begin row u ∧ ((Odd K C H y ∧ Q (.bl false) H) ∨ ∃ (b : Addr) (u2 : V) (row2 : List Int), y = .ref b ∧ EffAt C H b u2 (exs row2) ∧ Pg 40 row2 ∧ Begin row2 u2 ∧ Q (.bl (decide (u = u2 ∧ exs row = exs row2))) H)
theorem ok_Effect___eq (T : Txt K mg) : FnOk P w K mg base CX0 1 T.f_Effect___eq T.fd_Effect___eq ["self", "other"] (spEqE T.C_Effect K) := by
  refine T.F_Effect___eq.ok sc_Effect___eq (fun vs H Q E h => ?_) (fun cdv A outer s H vs Q E hr h => ?_)
  · obtain ⟨x, y, u, row, rfl, _⟩ := h
    rfl
  · obtain ⟨x, y, u, row, rfl, hx, hp, hb, k⟩ := h
    apply Exists.intro
    apply And.intro
    · apply pss_one
      exact (ps_ret (pe_and (pe_callB (k_isi (K := K) rfl) (by rfl) T.n_isinstance (by decide +kernel) (pa_cons (pv 1) (pa_cons (pe_glob (v := .ref T.C_Effect) (by rfl) T.g_Effect rfl) pa_nil))) (pe_and (pe_cmpR (k_eqD (K := K) rfl hr.units) (k_fld (K := K) rfl (pv 0) rfl) (k_fld (K := K) rfl (pv 1) rfl) (by rfl)) (pe_one (pe_cmpR (k_eqD (K := K) rfl hr.units) (k_fld (K := K) rfl (pv 0) rfl) (k_fld (K := K) rfl (pv 1) rfl) (by rfl))))))
    obtain ⟨dx, t, d, ts, h1, h2, h3, h4, h5⟩ := hx
    walk_at "sx"
    rcases k with ⟨⟨ty, tx, _, ki⟩, q⟩ | ⟨b, u2, row2, rfl, hy, hp2, hb2, q⟩
    · refine ⟨y, .ref T.C_Effect, _, .ref T.C_Effect, false, rfl, .own _, tx, ki, ?_⟩
      walk_at "sx"
      exact q
    · obtain ⟨dx2, t2, d2, ts2, g1, g2, g3, g4, g5⟩ := hy
      refine ⟨.ref b, .ref T.C_Effect, .ref T.C_Effect, .ref T.C_Effect, true, rfl, .own _, T.x_Effect.ty g1, T.x_Effect.me, ?_⟩
      walk_at "sx"
      refine ⟨_, _, _, h1, T.cl_Effect, T.na_Effect_begin_page, _, lk_begin _ _ _, ?_⟩
      refine ⟨_, _, _, g1, T.cl_Effect, T.na_Effect_begin_page, _, lk_begin _ _ _, ?_⟩
      refine ⟨_, _, dBeg hb, dBeg hb2, shp_dF u, shp_dF u2, ?_⟩
      rw [eqv_dF hb hb2]
      refine ⟨_, rfl, ?_⟩
      by_cases c : u = u2
      · rw [decide_eq_true c, if_pos rfl]
        refine ⟨_, _, _, h1, T.cl_Effect, T.na_Effect_pairs, _, lk_pairs _ _ _, ?_⟩
        refine ⟨_, _, _, g1, T.cl_Effect, T.na_Effect_pairs, _, lk_pairs _ _ _, ?_⟩
        refine ⟨_, _, .tup (.inl (.inl h2)) (dp_pairs h3 h4), .tup (.inl (.inl g2)) (dp_pairs g3 g4), shp_tup _, shp_tup _, ?_⟩
        rw [eqv_tup]
        have e : decide (u = u2 ∧ exs row = exs row2) = decide (exs row = exs row2) := decide_eq_decide.mpr ⟨fun h => h.2, fun h => ⟨c, h⟩⟩
        rw [e] at q
        exact q
      · rw [decide_eq_false c, if_neg (by decide)]
        have e : decide (u = u2 ∧ exs row = exs row2) = false := decide_eq_false fun h => c h.1
        rw [e] at q
        exact q
def spAddE (C : Addr) (K : PySem.W.Frag) : Sp := fun vs H Q _ => ∃ (x y : Addr) (row row2 : List Int), vs = [.ref x, .ref y] ∧ EffAt C H x (firstV row) (exs row) ∧ EffAt C H y (firstV row2) (exs row2) ∧ Pg 40 row ∧ Pg 40 row2 ∧ ∀ z H', H z = none → Ex H H' → EffAt C H' z (firstV (row ++ row2)) (exs (row ++ row2)) → Q (.ref z) H'
theorem getI_snoc (l : List (Int × Int)) (p q z : Int) : getI (l ++ [(p, q)]) z = match getI l z with | some w => some w | none => if z = p then some q else none := by
  unfold getI
  rw [List.find?_append]
  cases c : l.find? fun q => decide (q.1 = z) with
  | some w => rfl
  | none =>
    by_cases e : z = p
    · subst e; simp
    · have : ¬ p = z := fun w => e w.symm
      simp [this, e]
theorem getI_in {l : List (Int × Int)} {p w : Int} (h : getI l p = some w) : (p, w) ∈ l := by
  unfold getI at h
  cases c : l.find? fun q => decide (q.1 = p) with
  | none => rw [c] at h; cases h
  | some g =>
    rw [c] at h
    have e0 := List.find?_some (p := fun q : Int × Int => decide (q.1 = p)) c
    have e1 : g.1 = p := of_decide_eq_true e0
    have e2 : g.2 = w := Option.some.inj h
    have := List.mem_of_find?_eq_some c
    rw [← e1, ← e2]
    exact this
def JA1 (H1 : Hp) (x y c : Addr) (row : List Int) (b : Int) (i : Nat) (σ' : L2.St) (H' : Hp) : Prop := ∃ l3 l4 qs, σ' = [some (.ref x), some (.ref y), some (.ref c), l3, l4] ∧ Ex H1 H' ∧ H' c = some (.dK ((qs : List (Int × Int)).map itK)) ∧ (qs.map (·.1)).Nodup ∧ qs.length ≤ 40 + i ∧ ∀ z, getI qs z = (nx row z).map fun w => if w = z ∧ (z, z) ∈ (exs row).take i then b else w
def JA2 (H1 : Hp) (x y c : Addr) (row row2 : List Int) (b : Int) (i : Nat) (σ' : L2.St) (H' : Hp) : Prop := ∃ l3 l4 qs, σ' = [some (.ref x), some (.ref y), some (.ref c), l3, l4] ∧ Ex H1 H' ∧ H' c = some (.dK ((qs : List (Int × Int)).map itK)) ∧ (qs.map (·.1)).Nodup ∧ qs.length ≤ 80 + i ∧ ∀ z, getI qs z = match getI ((exs row2).take i) z with | some w => some w | none => (nx row z).map fun w => if w = z then b else w
theorem ok_Effect___add (T : Txt K mg) : FnOk P w K mg base CX0 7 T.f_Effect___add T.fd_Effect___add ["self", "other"] (spAddE T.C_Effect K) := by
  refine T.F_Effect___add.ok sc_Effect___add (fun vs H Q E h => ?_) (fun cdv A outer s H vs Q E hr h => ?_)
  · obtain ⟨x, y, row, row2, rfl, _⟩ := h
    rfl
  · obtain ⟨x, y, row, row2, rfl, hx, hy, hp, hp2, k⟩ := h
    apply Exists.intro
    apply And.intro
    · apply pss_cons
      · apply ps_if
        · exact (pt_cmpR op_isN (k_fld (K := K) rfl (pv 0) rfl) pe_non (by rfl))
        · apply pss_one
          exact (ps_ret (pe_make T.M_Effect (ok_Effect___init T) (hr.mono (by decide)) (by rfl) T.g_Effect T.b_Effect___init .nil pass0 (pa_cons (k_fld (K := K) rfl (pv 1) rfl) (pa_cons (pe_callTy (k_listOf (K := K) rfl) (by rfl) T.n_list (by decide +kernel) (pa_cons (k_fld (K := K) rfl (pv 1) rfl) pa_nil)) pa_nil))))
        · exact pss_nil
      apply pss_cons
      · exact (ps_set (i := 2) sc_Effect___add.nd rfl (.inl rfl) (pe_callTy k_dictD (by rfl) T.n_dict (by decide +kernel) (pa_cons (k_fld (K := K) rfl (pv 0) rfl) pa_nil)))
      apply pss_cons
      · apply ps_if
        · exact (pt_cmpR op_notN (k_fld (K := K) rfl (pv 1) rfl) pe_non (by rfl))
        · apply pss_cons
          · apply ps_for PassesOwn.never rfl
            · exact (k_pi_tup (K := K) rfl (k_fld (K := K) rfl (pv 0) rfl))
            · exact (k_tup (K := K) (n := 2) rfl rfl (pgs_cons (pg_name (i := 3) sc_Effect___add.nd rfl (.inl rfl)) (pgs_cons (pg_name (i := 4) sc_Effect___add.nd rfl (.inl rfl)) pgs_nil)))
            · apply pss_one
              apply ps_if
              · exact (pt_cmpR op_eq (pv 3) (pv 4) (by rfl))
              · apply pss_one
                exact (ps_dput (hu_of hr) (pv 2) (pv 3) (k_fld (K := K) rfl (pv 1) rfl) rfl)
              · exact pss_nil
          apply pss_one
          apply ps_for PassesOwn.never rfl
          · exact (k_pi_tup (K := K) rfl (k_fld (K := K) rfl (pv 1) rfl))
          · exact (k_tup (K := K) (n := 2) rfl rfl (pgs_cons (pg_name (i := 3) sc_Effect___add.nd rfl (.inl rfl)) (pgs_cons (pg_name (i := 4) sc_Effect___add.nd rfl (.inl rfl)) pgs_nil)))
          · apply pss_one
            exact (ps_dput (hu_of hr) (pv 2) (pv 3) (pv 4) rfl)
        · exact pss_nil
      apply pss_one
      exact (ps_ret (pe_make T.M_Effect (ok_Effect___init T) (hr.mono (by decide)) (by rfl) T.g_Effect T.b_Effect___init .nil pass0 (pa_cons (k_fld (K := K) rfl (pv 0) rfl) (pa_cons (pe_callB (cr_sortIt rfl) (by rfl) T.n_sorted (by decide +kernel) (pa_cons (k_bm0 (K := K) rfl (pe_bm0 PySem.F.plainAttrs_dict PySem.F.slot_dict_items PySem.F.type_dict_items mt_items (pv 2))) pa_nil)) pa_nil))))
    obtain ⟨dx, t, d, ts, h1, h2, h3, h4, h5⟩ := hx
    obtain ⟨dy, t2, d2, ts2, g1, g2, g3, g4, g5⟩ := hy
    cases row with
    | nil =>
      simp only [firstV] at h1
      walk_at "sx"
      refine ⟨_, _, _, h1, T.cl_Effect, T.na_Effect_begin_page, _, lk_begin _ _ _, ?_⟩
      rw [if_pos rfl]
      refine ⟨_, _, _, g1, T.cl_Effect, T.na_Effect_begin_page, _, lk_begin _ _ _, ?_⟩
      refine ⟨_, _, _, g1, T.cl_Effect, T.na_Effect_pairs, _, lk_pairs _ _ _, ?_⟩
      refine ⟨t2, _, rfl, .inr (.inl (.inl g2)), fun l nl => ?_⟩
      intro z dz n1 n2 n3
      have el := Ex.new nl (o := .lst (ts2.map V.ref))
      have es : Ex (upd H l (.lst (ts2.map V.ref))) (upd (upd (upd H l (.lst (ts2.map V.ref))) dz (.own z)) z (.ins T.C_Effect dz [])) := (Ex.new n2).mut n1
      refine ⟨z, dz, l, ts2, row2, _, rfl, begin_first row2, upd_same, ⟨.inl (.inl (es _ _ upd_same)), g3, fun i u hi => es _ _ (el _ _ (g4 i u hi))⟩, hp2, fun H' hk he => ⟨rfl, ?_⟩⟩
      exact k z H' (fresh_back el n1) (el.trans (make_ex (C := T.C_Effect) n1 n2 hk)) he
    | cons a r =>
      refine seq_cut (fun σ' H' => σ' = [some (.ref x), some (.ref y), none, none, none] ∧ H' = H) (fun N hN => ?_) (fun σ1 H1 hC => ?_)
      · walk_at "sx"
        refine ⟨_, _, _, h1, T.cl_Effect, T.na_Effect_begin_page, _, lk_begin _ _ _, ?_⟩
        simp only [firstV]
        walk_at "sx"
        exact hN _ _ ⟨rfl, rfl⟩
      obtain ⟨rfl, rfl⟩ := hC
      refine seq_cut (fun σ' H' => ∃ c, σ' = [some (.ref x), some (.ref y), some (.ref c), none, none] ∧ H1 c = none ∧ Ex H1 H' ∧ H' c = some (.dK ((exs (a :: r)).map itK))) (fun N hN => ?_) (fun σ2 H2 hC => ?_)
      · walk_at "sx"
        refine ⟨_, _, _, h1, T.cl_Effect, T.na_Effect_exit_of, _, lk_exit _ _ _, ?_⟩
        refine ⟨d, _, rfl, .inl h5, fun c nc => ?_⟩
        exact hN _ _ ⟨c, rfl, nc, Ex.new nc, upd_same⟩
      obtain ⟨c, rfl, nc, e2, hc⟩ := hC
      have ndk : ∀ row : List Int, ((exs row).map (·.1)).Nodup := fun row => srt_nodup (exs_srt row)
      refine seq_cut (fun σ' H' => ∃ qs l3 l4, σ' = [some (.ref x), some (.ref y), some (.ref c), l3, l4] ∧ Ex H1 H' ∧ H' c = some (.dK ((qs : List (Int × Int)).map itK)) ∧ (qs.map (·.1)).Nodup ∧ ∀ z, getI qs z = nx (a :: r ++ row2) z) (fun N hN => ?_) (fun σ3 H3 hC => ?_)
      · walk_at "sx"
        refine ⟨_, _, _, e2 _ _ g1, T.cl_Effect, T.na_Effect_begin_page, _, lk_begin _ _ _, ?_⟩
        cases row2 with
        | nil =>
          simp only [firstV]
          walk_at "sx"
          refine hN _ _ ⟨_, _, _, rfl, e2, hc, ndk _, fun z => ?_⟩
          rw [getI_exs hp, List.append_nil]
        | cons b s =>
          simp only [firstV]
          walk_at "sx"
          refine ⟨_, _, _, e2 _ _ h1, T.cl_Effect, T.na_Effect_pairs, _, lk_pairs _ _ _, t, rfl, ⟨_, .inl (.inl (e2 _ _ h2))⟩, ?_⟩
          refine lg_tup (xs := ts.map V.ref) (JA1 H1 x y c (a :: r) b) ⟨none, none, exs (a :: r), rfl, e2, hc, ndk _, exs_len40 _, fun z => ?_⟩ (fun i σ' H' _ hP => by obtain ⟨_, _, _, _, e, _⟩ := hP; exact .inl (.inl (e _ _ h2))) (fun i v σ' H' hv hP => ?_) (fun σ' H' hP => ?_)
          · rw [getI_exs hp]
            cases nx (a :: r) z with
            | none => rfl
            | some w => simp
          · obtain ⟨l3, l4, qs, rfl, e, hc, nd, hql, hg⟩ := hP
            obtain ⟨u, hu, rfl⟩ := refs_at hv
            have hi := (List.getElem?_eq_some_iff.mp hu).1
            have hpr := e _ _ (pr_ev (h4 i u hu))
            have h40 := exs_len40 (a :: r)
            have hq : (exs (a :: r))[i]? = some ((exs (a :: r)).getD i (0, 0)) := by rw [List.getD_eq_getElem?_getD, List.getElem?_eq_getElem (by omega)]; rfl
            generalize hgg : (exs (a :: r)).getD i (0, 0) = g at hpr hq
            obtain ⟨p, q⟩ := g
            have hnx : nx (a :: r) p = some q := (mem_exs hp).mp (List.mem_of_getElem? hq)
            have tk : ∀ z : Int, (z ≠ p ∨ p ≠ q) → ((z, z) ∈ (exs (a :: r)).take (i + 1) ↔ (z, z) ∈ (exs (a :: r)).take i) := fun z hz => by
              rw [List.take_add_one, hq, Option.toList_some, List.mem_append, List.mem_singleton]
              constructor
              · rintro (h | h)
                · exact h
                · have e1 : z = p := (Prod.mk.inj h).1
                  have e2 : z = q := (Prod.mk.inj h).2
                  rcases hz with hz | hz
                  · exact absurd e1 hz
                  · exact absurd (e1.symm.trans e2) hz
              · exact .inl
            refine g_two hpr ?_
            walk_at "sx"
            by_cases c0 : p = q
            · subst c0
              rw [if_pos rfl]
              refine ⟨_, _, _, e _ _ g1, T.cl_Effect, T.na_Effect_begin_page, _, lk_begin _ _ _, ?_⟩
              refine ⟨_, DPut.k (k := Sum.inl p) hc (BC.sz_lt (by rw [List.length_map]; omega)), ?_⟩
              refine ⟨_, _, putI qs p b, rfl, e.mut nc, by rw [upd_same, ← putI_put]; rfl, putI_nodup nd, Nat.le_trans (putI_len _ _ _) (by omega), fun z => ?_⟩
              rw [getI_put]
              by_cases cz : z = p
              · rw [if_pos cz, cz, hnx]
                have hm : (p, p) ∈ (exs (a :: r)).take (i + 1) := by
                  rw [List.take_add_one, hq, Option.toList_some]
                  exact List.mem_append_right _ (List.mem_singleton.mpr rfl)
                show some b = some (if p = p ∧ (p, p) ∈ (exs (a :: r)).take (i + 1) then b else p)
                rw [if_pos ⟨rfl, hm⟩]
              · rw [if_neg cz, hg]
                congr 1
                funext w
                simp only [tk z (.inl cz)]
            · rw [if_neg c0]
              refine ⟨_, _, qs, rfl, e, hc, nd, by omega, fun z => ?_⟩
              rw [hg]
              congr 1
              funext w
              simp only [tk z (.inr c0)]
          · obtain ⟨l3, l4, qs, rfl, e, hc, nd, hql, hg⟩ := hP
            rw [List.length_map, h3, List.take_of_length_le (Nat.le_refl _)] at hg
            have hg2 : ∀ z, getI qs z = (nx (a :: r) z).map fun w => if w = z then b else w := fun z => by
              rw [hg]
              cases d : nx (a :: r) z with
              | none => rfl
              | some w =>
                show some (if w = z ∧ (z, z) ∈ exs (a :: r) then b else w) = some (if w = z then b else w)
                by_cases cw : w = z
                · subst cw
                  rw [if_pos ⟨rfl, (mem_exs hp).mpr d⟩, if_pos rfl]
                · rw [if_neg (fun h => cw h.1), if_neg cw]
            have h40 := exs_len40 (a :: r)
            rw [List.length_map] at hql
            walk_at "sx"
            refine ⟨_, _, _, e _ _ g1, T.cl_Effect, T.na_Effect_pairs, _, lk_pairs _ _ _, t2, rfl, ⟨_, .inl (.inl (e _ _ g2))⟩, ?_⟩
            refine lg_tup (xs := ts2.map V.ref) (JA2 H1 x y c (a :: r) (b :: s) b) ⟨_, _, qs, rfl, e, hc, nd, by omega, fun z => ?_⟩ (fun i σ' H' _ hP => by obtain ⟨_, _, _, _, e, _⟩ := hP; exact .inl (.inl (e _ _ g2))) (fun i v σ' H' hv hP => ?_) (fun σ' H' hP => ?_)
            · rw [hg2]
              rfl
            · obtain ⟨l3, l4, qs, rfl, e, hc, nd, hql, hg⟩ := hP
              obtain ⟨u, hu, rfl⟩ := refs_at hv
              have hi := (List.getElem?_eq_some_iff.mp hu).1
              have hpr := e _ _ (pr_ev (g4 i u hu))
              have h402 := exs_len40 (b :: s)
              have hq : (exs (b :: s))[i]? = some ((exs (b :: s)).getD i (0, 0)) := by rw [List.getD_eq_getElem?_getD, List.getElem?_eq_getElem (by omega)]; rfl
              generalize hgg : (exs (b :: s)).getD i (0, 0) = g at hpr hq
              obtain ⟨p, q⟩ := g
              have hnx : nx (b :: s) p = some q := (mem_exs hp2).mp (List.mem_of_getElem? hq)
              refine g_two hpr ?_
              walk_at "sx"
              refine ⟨_, DPut.k (k := Sum.inl p) hc (BC.sz_lt (by rw [List.length_map]; omega)), ?_⟩
              refine ⟨_, _, putI qs p q, rfl, e.mut nc, by rw [upd_same, putI_put], putI_nodup nd, Nat.le_trans (putI_len _ _ _) (by omega), fun z => ?_⟩
              rw [getI_put, List.take_add_one, hq, Option.toList_some, getI_snoc]
              by_cases cz : z = p
              · rw [if_pos cz, cz]
                cases d : getI ((exs (b :: s)).take i) p with
                | none => simp
                | some w =>
                  have hw := (mem_exs hp2).mp (List.mem_of_mem_take (getI_in d))
                  rw [hnx] at hw
                  cases hw
                  rfl
              · rw [if_neg cz, hg]
                cases d : getI ((exs (b :: s)).take i) z with
                | none => simp [cz]
                | some w => rfl
            · obtain ⟨l3, l4, qs, rfl, e, hc, nd, hql, hg⟩ := hP
              rw [List.length_map, g3, List.take_of_length_le (Nat.le_refl _)] at hg
              refine hN _ _ ⟨qs, _, _, rfl, e, hc, nd, fun z => ?_⟩
              rw [hg, getI_exs hp2, nx_app]
      obtain ⟨qs, l3, l4, rfl, e3, hc3, nd3, hg⟩ := hC
      have hpa : Pg 40 (a :: r ++ row2) := fun z hz => (List.mem_append.mp hz).elim (hp z) (hp2 z)
      walk_at "sx"
      refine ⟨_, _, _, e3 _ _ h1, T.cl_Effect, T.na_Effect_begin_page, _, lk_begin _ _ _, tyD hc3, c, _, rfl, rfl, hc3, fun v nv => ?_⟩
      have ev := Ex.new nv (o := itemsO v c)
      refine ⟨v, c, _, rfl, upd_same, ev _ _ hc3, fun H4 q ts5 rs e4 nq hq perm srt hl2 hts => ?_⟩
      have ers := srt_exs hpa perm srt nd3 hg
      subst ers
      have E := e3.trans (ev.trans e4)
      intro z dz n1 n2 n3
      have es : Ex H4 (upd (upd H4 dz (.own z)) z (.ins T.C_Effect dz [])) := (Ex.new n2).mut n1
      refine ⟨z, dz, q, ts5, a :: r ++ row2, _, rfl, begin_first (a :: r ++ row2), upd_same, ⟨.inl (.inl (es _ _ hq)), hl2, fun i u hi => es _ _ (hts i u hi).2⟩, hpa, fun H' hk he => ⟨rfl, ?_⟩⟩
      exact k z H' (fresh_back E n1) (E.trans (make_ex (C := T.C_Effect) n1 n2 hk)) he
end
end LW

set_option Elab.async false
set_option linter.all false
set_option maxRecDepth 100000
set_option maxHeartbeats 4000000
namespace LW
open PySem PySem.Spec PyProof.Rows L2 BC Evl TR EF L2.DX
local macro_rules | `(tactic| walk_at "sx") => `(tactic| try simp only [x_callS, x_callF4, x_lc2, x_callG, x_g0, x_gfor, x_ghead, x_gplain, x_gthen, x_gyield, x_listG, x_lockE, x_lockS, x_daug, x_seq, x_next, x_brk, x_cnt, x_nev, x_ret, x_retN, x_drop, x_ifS, x_asg, x_gn, x_gsub, x_par, x_par3, x_aug, x_for, x_lc, x_rng1, x_rng2, x_rng3, x_ilist, x_itup, x_ienum, x_izip, x_izipA, x_istr, x_var, x_c, x_op, x_un, x_test, x_b, x_chain, x_and, x_or, x_not, x_andV, x_orV, x_notV, x_ife, x_nil, x_cons, x_lst, x_tup, x_cb, x_call, x_callK, x_bm, x_bm0, x_tru, x_sl, x_nopart, x_part, x_revL, x_I0, x_I, x_U, x_ip, x_ipC, x_eqI, x_neI, x_eqB, x_neB, x_eqS, x_neS, x_isB, x_isNB, x_lrg, x_gall, x_lenSet, x_sortSet, x_rg1, x_rg2, x_dnewK, x_dnewT, x_dget, x_dget1, x_dget2, x_din, x_dnotin, x_dput, x_ikeys, x_fld, x_sfld, x_prop, x_meth, x_make, x_dc, x_callO, x_callOK,
  L2.start, List.map_cons, List.map_nil, List.length_cons, List.length_nil, Nat.reduceAdd, Nat.reduceSub, Nat.sub_self, Nat.zero_add, List.replicate, List.replicate_succ, List.replicate_zero, List.append_nil, List.cons_append, List.nil_append, List.set_cons_zero, List.set_cons_succ, List.getElem?_cons_zero, List.getElem?_cons_succ, Option.some.injEq, V.int.injEq, V.bl.injEq, V.ref.injEq, V.str.injEq, List.cons.injEq, and_true, true_and, exists_eq_left', exists_eq_left, exists_and_left, exists_eq, if_true, if_false, ite_true, ite_false, Bool.true_eq_false, Bool.false_eq_true, reduceIte, reduceCtorEq, Bool.not_true, Bool.not_false, decide_true, decide_false, decide_eq_true_eq, Bool.and_true, Bool.true_and, Bool.and_self, Bool.and_false, Bool.false_and, Bool.or_self, Bool.or_false, Bool.false_or, Bool.or_true, Bool.true_or, eq_self])
section
variable {P : Program} {w : World} {K : PySem.W.Frag} {mg : Str → Option Value} {base : Heap}
/-- an effect, or what is none -/
def EffOr (C : Addr) (K : PySem.W.Frag) (H : Hp) (v : V) (Y N : Prop) (Yk : List Int → Addr → Prop) : Prop :=
  (Y ∧ ∃ (x : Addr) (row : List Int), v = .ref x ∧ EffAt C H x (firstV row) (exs row) ∧ Pg 40 row ∧ row.length ≤ 300 ∧ Yk row x) ∨ (N ∧ Odd K C H v)
def spCkEff (C Ce : Addr) (K : PySem.W.Frag) : Sp := fun vs H Q E => ∃ v, vs = [v] ∧ ((∃ (x : Addr) (u : V) (qs : List (Int × Int)), v = .ref x ∧ EffAt C H x u qs ∧ Q .non H) ∨ (Odd K C H v ∧ E (.ref Ce) none H))
theorem ok_check_effect (T : Txt K mg) : FnOk P w K mg base (L2.CX P w) 1 T.f_check_effect T.fd_check_effect ["value"] (spCkEff T.C_Effect T.C_InvalidEffectError K) := by
  refine T.F_check_effect.okX sc_check_effect (fun vs H Q E h => ?_) (fun cdv A outer s H vs Q E hr h => ?_)
  · obtain ⟨v, rfl, _⟩ := h
    rfl
  · obtain ⟨v, rfl, h⟩ := h
    apply Exists.intro
    apply And.intro
    · apply pss_one
      apply ps_if
      · exact (pt_not (pt_val (pe_callB (k_isi (K := K) rfl) (by rfl) T.n_isinstance (by decide +kernel) (pa_cons (pv 0) (pa_cons (pe_glob (v := .ref T.C_Effect) (by rfl) T.g_Effect rfl) pa_nil)))))
      · apply pss_one
        exact (ps_raise rfl (takes_of rfl rfl rfl rfl) (pmk_own PySem.F.excBase_ValueError T.x_InvalidEffectError T.g_InvalidEffectError T.k_InvalidEffectError (raises_own T.b_InvalidEffectError T.t_InvalidEffectError) (by rfl)))
      · exact pss_nil
    walk_at "sx"
    rcases h with ⟨x, u, qs, rfl, hx, k⟩ | ⟨⟨t, ht, _, hk⟩, k⟩
    · obtain ⟨dx, t, d, ts, g1, g2, g3, g4, g5⟩ := hx
      refine ⟨.ref x, .ref T.C_Effect, .ref T.C_Effect, .ref T.C_Effect, true, rfl, .own _, T.x_Effect.ty g1, T.x_Effect.me, ?_⟩
      walk_at "sx"
      exact k
    · refine ⟨v, .ref T.C_Effect, t, .ref T.C_Effect, false, rfl, .own _, ht, hk, ?_⟩
      walk_at "sx"
      exact k
def fac : Nat → Nat
  | 0 => 1
  | n + 1 => (n + 1) * fac n
theorem fac_pos : ∀ n, 0 < fac n
  | 0 => Nat.one_pos
  | n + 1 => Nat.mul_pos (Nat.succ_pos _) (fac_pos n)
theorem fac_le : ∀ n, n ≤ 64 → fac n ≤ 64 ^ n
  | 0, _ => Nat.le_refl _
  | n + 1, h => by
    rw [Nat.pow_succ, Nat.mul_comm]
    exact Nat.mul_le_mul h (fac_le n (by omega))
theorem fac_lt {n : Nat} (h : n ≤ 64) : fac n < 2 ^ 400 := by
  refine Nat.lt_of_le_of_lt (fac_le n h) (Nat.lt_of_le_of_lt (Nat.pow_le_pow_right (by decide) h) (by decide))
theorem mulN {a b : Nat} (ha : a < 2 ^ 1000) (hb : b < 2 ^ 1000) : CMulX (a : Int) (b : Int) := .inr (wide_mul (a := 1000) (b := 1000) (by rw [Int.natAbs_natCast]; exact ha) (by rw [Int.natAbs_natCast]; exact hb) (by omega) (by omega) (by omega))
theorem lt1000 {a : Nat} (h : a < 2 ^ 400) : a < 2 ^ 1000 := Nat.lt_of_lt_of_le h (Nat.pow_le_pow_right (by decide) (by decide))
theorem small1000 {a : Nat} (h : a < 1000000) : a < 2 ^ 1000 := Nat.lt_of_lt_of_le h (Nat.le_trans (show 1000000 ≤ 2 ^ 20 by decide) (Nat.pow_le_pow_right (by decide) (by decide)))
def spFact : Sp := fun vs H Q _ => ∃ n : Nat, vs = [.int n] ∧ n ≤ 60 ∧ Q (.int (fac n : Nat)) H
def JFa (H : Hp) (n : Nat) (i : Nat) (σ' : L2.St) (H' : Hp) : Prop := ∃ l2, σ' = [some (.int n), some (.int (fac (i + 1) : Nat)), l2] ∧ H' = H
theorem ok_factorial (T : Txt K mg) : FnOk P w K mg base CX0 1 T.f_factorial T.fd_factorial ["many"] spFact := by
  refine T.F_factorial.ok sc_factorial (fun vs H Q E h => ?_) (fun cdv A outer s H vs Q E hr h => ?_)
  · obtain ⟨n, rfl, _⟩ := h
    rfl
  · obtain ⟨n, rfl, hn, k⟩ := h
    apply Exists.intro
    apply And.intro
    · apply pss_cons
      · exact (ps_set (i := 1) sc_factorial.nd rfl (.inl rfl) pe_int)
      apply pss_cons
      · apply ps_for PassesOwn.never rfl
        · exact (pi_range2 (by rfl) T.n_range (pa_cons pe_int (pa_cons (pe_op op_add (pv 0) pe_int) pa_nil)))
        · exact (pg_name (i := 2) sc_factorial.nd rfl (.inl rfl))
        · apply pss_one
          exact (ps_aug (i := 1) sc_factorial.nd rfl (.inl rfl) (pv 2) ip_mulX)
      apply pss_one
      exact (ps_ret (pv 1))
    walk_at "sx"
    refine ⟨_, _, ⟨rfl, rfl⟩, ⟨by omega, by omega, by omega, by omega⟩, ?_⟩
    refine lg_rng (JFa H n) ⟨none, rfl, rfl⟩ (fun i σ' H' hi hP => ?_) (fun σ' H' hP => ?_)
    · obtain ⟨l2, rfl, rfl⟩ := hP
      walk_at "sx"
      have hi' : i + 2 ≤ 61 := by omega
      have e2 : (2 + (i : Int)) = ((i + 2 : Nat) : Int) := by omega
      rw [e2]
      refine ⟨mulN (lt1000 (fac_lt (by omega))) (small1000 (by omega)), some (.int ((i + 2 : Nat) : Int)), ?_, rfl⟩
      have e : (fac (i + 1) : Int) * ((i + 2 : Nat) : Int) = ((fac (i + 1 + 1) : Nat) : Int) := by
        show _ = (((i + 1 + 1) * fac (i + 1) : Nat) : Int)
        rw [Int.natCast_mul, Int.mul_comm]
      rw [e]
    · obtain ⟨l2, rfl, rfl⟩ := hP
      walk_at "sx"
      have e : fac (((n : Int) + 1 - 2).toNat + 1) = fac n := by
        by_cases h0 : n = 0
        · subst h0; rfl
        · rw [show ((n : Int) + 1 - 2).toNat + 1 = n by omega]
      rw [e]
      exact k
theorem kept_if (P : Int → Bool) (s : List Int) : kept s.length (fun i => P (s.getD i 0)) (fun i => V.int (s.getD i 0)) = (s.filter P).map V.int := by
  have h : ∀ n, n ≤ s.length → kept n (fun i => P (s.getD i 0)) (fun i => V.int (s.getD i 0)) = ((s.take n).filter P).map V.int := fun n => by
    induction n with
    | zero => intro _; rfl
    | succ n ih =>
      intro hn
      have hq : s[n]? = some (s.getD n 0) := by rw [List.getD_eq_getElem?_getD, List.getElem?_eq_getElem (by omega)]; rfl
      rw [List.take_add_one, hq]
      cases c : P (s.getD n 0) with
      | true =>
        rw [kept_yes (k := fun i => P (s.getD i 0)) c, ih (by omega), Option.toList_some, List.filter_append, List.filter_cons_of_pos c, List.filter_nil, List.map_append]
        rfl
      | false =>
        rw [kept_no (k := fun i => P (s.getD i 0)) c, ih (by omega), Option.toList_some, List.filter_append, List.filter_cons_of_neg (by rw [c]; exact Bool.false_ne_true), List.filter_nil, List.append_nil]
  rw [h _ (Nat.le_refl _), List.take_of_length_le (Nat.le_refl _)]
def spFreeL (C : Addr) : Sp := fun vs H Q _ => ∃ (x : Addr) (row : List Int), vs = [.ref x] ∧ EffAt C H x (firstV row) (exs row) ∧ Pg 40 row ∧ ∀ l H', H l = none → Ex H H' → H' l = some (.lst ((frL row).map V.int)) → Q (.ref l) H'
theorem leaves_nil : leavesOf (exs []) = [] := by decide +kernel
theorem first_head {row : List Int} (h : row ≠ []) : firstV row = .int (row.headD 0) := by
  cases row with
  | nil => exact absurd rfl h
  | cons a r => rfl
theorem ok_free_leaves (T : Txt K mg) : FnOk P w K mg base CX0 3 T.f_free_leaves T.fd_free_leaves ["effect"] (spFreeL T.C_Effect) := by
  refine T.F_free_leaves.ok sc_free_leaves (fun vs H Q E h => ?_) (fun cdv A outer s H vs Q E hr h => ?_)
  · obtain ⟨x, row, rfl, _⟩ := h
    rfl
  · obtain ⟨x, row, rfl, hx, hp, k⟩ := h
    apply Exists.intro
    apply And.intro
    · apply pss_one
      exact (ps_ret (pe_lc (own := [("page", 1)]) rfl sc_free_leaves.nd (k_pi_list (K := K) rfl (pe_prop (pv 0) T.cl_Effect T.p_Effect_leaves (ok_Effect_leaves T) (hr.mono (by decide)) T.b_Effect_leaves .nil pass0 rfl)) (blkOk_by (own := [("page", 1)]) (N := ["effect", "page"]) (sc := defScope s_free_leaves) (by decide +kernel)) (fun _ _ _ _ _ => by exact (pg_name (i := 1) sc_free_leaves.nd rfl (.inl rfl))) (fun _ _ _ _ _ => by exact (pts_one (pt_cmpR (k_neD (K := K) rfl hr.units) (pv 1) (pe_prop (pv 0) T.cl_Effect T.p_Effect_first (ok_Effect_first T) (hr.mono (by decide)) T.b_Effect_first .nil pass0 rfl) (by rfl)))) (fun _ _ _ _ _ => by exact (pv 1))))
    have hx0 := hx
    obtain ⟨dx, t, d, ts, h1, h2, h3, h4, h5⟩ := hx0
    have h40 := exs_len40 row
    have hlv := leaves_le row
    walk_at "sx"
    refine ⟨_, _, h1, ?_⟩
    refine ⟨x, _, _, rfl, hx, by omega, fun b H1 nb e1 hb => ?_⟩
    refine ⟨b, rfl, ⟨_, .inl (.inl hb)⟩, fun D nD => ?_⟩
    refine lc_list (xs := (leavesOf (exs row)).map V.int) (fun j => decide ((leavesOf (exs row)).getD j 0 ≠ row.headD 0)) (fun j => V.int ((leavesOf (exs row)).getD j 0)) (.inl (.inl hb)) nD (by rw [List.length_map]; omega) (fun u => rfl) (fun j v hj => ?_) (fun j v hj _ => ?_) (fun H2 e2 hD => ?_)
    · intro H3 e3 R hR
      obtain ⟨n, hn, rfl⟩ := ints_at hj
      have hne : row ≠ [] := fun e => by
        rw [e, leaves_nil] at hn
        cases hn
      walk_at "sx"
      refine ⟨_, rfl, _, rfl, x, rfl, _, _, e3 _ _ (e1 _ _ h1), ?_⟩
      refine ⟨x, _, _, rfl, (hx.ex e1).ex e3, ?_⟩
      rw [first_head hne]
      refine ⟨.int n, .int (row.headD 0), .int _, .int _, rfl, rfl, ?_⟩
      refine ⟨_, rfl, ?_⟩
      have e : (!PyData.eqv (.int n) (.int (row.headD 0))) = decide ((leavesOf (exs row)).getD j 0 ≠ row.headD 0) := by
        rw [List.getD_eq_getElem?_getD, hn]
        show (!(n == row.headD 0)) = decide (n ≠ row.headD 0)
        by_cases c : n = row.headD 0
        · rw [beq_iff_eq.mpr c, decide_eq_false (by simpa using c)]; rfl
        · rw [beq_eq_false_iff_ne.mpr c, decide_eq_true c]; rfl
      rw [e]
      exact hR _ (Ex.refl _)
    · obtain ⟨n, hn, rfl⟩ := ints_at hj
      rw [List.getD_eq_getElem?_getD, hn]
      exact ev_var rfl
    · rw [List.length_map, kept_if (P := fun x => decide (x ≠ row.headD 0))] at hD
      exact k D _ (fresh_back e1 nD) (e1.trans e2) hD
theorem few_nil : few [] = 0 := rfl
theorem exs_ne {row : List Int} (hp : Pg 40 row) (h : row ≠ []) : (exs row).length ≠ 0 := fun e => by
  have := (mem_exs hp).mpr (nx_lst h)
  rw [List.length_eq_zero_iff.mp e] at this
  cases this
def spFewIn (C : Addr) : Sp := fun vs H Q _ => ∃ (x : Addr) (row : List Int), vs = [.ref x] ∧ EffAt C H x (firstV row) (exs row) ∧ Pg 40 row ∧ ∀ H', Ex H H' → Q (.int (few row : Nat)) H'
theorem ok_fewest_in (T : Txt K mg) : FnOk P w K mg base CX0 3 T.f_fewest_in T.fd_fewest_in ["effect"] (spFewIn T.C_Effect) := by
  refine T.F_fewest_in.ok sc_fewest_in (fun vs H Q E h => ?_) (fun cdv A outer s H vs Q E hr h => ?_)
  · obtain ⟨x, row, rfl, _⟩ := h
    rfl
  · obtain ⟨x, row, rfl, hx, hp, k⟩ := h
    apply Exists.intro
    apply And.intro
    · apply pss_cons
      · apply ps_if
        · exact (pt_cmpR op_eq (pe_callB (call_lenOwn T.h_Effect___len T.i_Effect___len (ok_Effect___len T) (hr.mono (by decide)) T.b_Effect___len pass0) (by rfl) T.n_len PySem.boot_len (pa_cons (pv 0) pa_nil)) pe_int (by rfl))
        · apply pss_one
          exact (ps_ret pe_int)
        · exact pss_nil
      apply pss_one
      exact (ps_ret (pe_op op_sub (pe_op op_add (pe_callB (call_lenOwn T.h_Effect___len T.i_Effect___len (ok_Effect___len T) (hr.mono (by decide)) T.b_Effect___len pass0) (by rfl) T.n_len PySem.boot_len (pa_cons (pv 0) pa_nil)) (pe_callB (k_len (K := K) rfl) (by rfl) T.n_len PySem.boot_len (pa_cons (pe_prop (pv 0) T.cl_Effect T.p_Effect_leaves (ok_Effect_leaves T) (hr.mono (by decide)) T.b_Effect_leaves .nil pass0 rfl) pa_nil))) (pe_callTy call_int1 (by rfl) T.n_int (by decide +kernel) (pa_cons (pe_cmpR (k_in (K := K) rfl) (pe_prop (pv 0) T.cl_Effect T.p_Effect_first (ok_Effect_first T) (hr.mono (by decide)) T.b_Effect_first .nil pass0 rfl) (pe_prop (pv 0) T.cl_Effect T.p_Effect_leaves (ok_Effect_leaves T) (hr.mono (by decide)) T.b_Effect_leaves .nil pass0 rfl) (by rfl)) pa_nil))))
    have hx0 := hx
    obtain ⟨dx, t, d, ts, h1, h2, h3, h4, h5⟩ := hx0
    have h40 := exs_len40 row
    have hlv := leaves_le row
    walk_at "sx"
    refine ⟨x, dx, _, rfl, h1, ⟨x, _, _, rfl, hx, ⟨_, rfl, by omega, by omega, ?_⟩⟩⟩
    walk_at "sx"
    by_cases hne : row = []
    · subst hne
      have e0 : (exs []).length = 0 := by decide +kernel
      rw [e0, if_pos (by rfl)]
      exact k _ (Ex.refl _)
    · have n0 := exs_ne hp hne
      rw [if_neg (by omega)]
      refine ⟨x, dx, _, rfl, h1, ⟨x, _, _, rfl, hx, ⟨_, rfl, by omega, by omega, ?_⟩⟩⟩
      refine ⟨_, _, h1, ⟨x, _, _, rfl, hx, by omega, fun b H1 nb e1 hb => ?_⟩⟩
      refine lenL (.inl (.inl hb)) ?_
      walk_at "sx"
      refine ⟨_, _, e1 _ _ h1, ⟨x, _, _, rfl, hx.ex e1, ?_⟩⟩
      refine ⟨_, _, e1 _ _ h1, ⟨x, _, _, rfl, hx.ex e1, by omega, fun b2 H2 nb2 e2 hb2 => ?_⟩⟩
      rw [first_head hne]
      refine inL (.inl (.inl hb2)) (.inr ⟨_, rfl, ?_⟩)
      walk_at "sx"
      rw [List.length_map]
      have e : (((exs row).length : Nat) : Int) + (((leavesOf (exs row)).length : Nat) : Int) - (if row.headD 0 ∈ leavesOf (exs row) then 1 else 0) = ((few row : Nat) : Int) := by
        unfold few lfB
        rw [if_neg hne]
        by_cases c : row.headD 0 ∈ leavesOf (exs row)
        · rw [if_pos c, if_pos (decide_eq_true c)]; omega
        · rw [if_neg c, if_neg (by rw [decide_eq_false c]; decide)]; omega
      have kk := k _ (e1.trans e2)
      rw [← e] at kk
      exact kk
def spNumL (C : Addr) : Sp := fun vs H Q _ => ∃ (x : Addr) (row : List Int), vs = [.ref x] ∧ EffAt C H x (firstV row) (exs row) ∧ Pg 40 row ∧ ∀ H', Ex H H' → Q (.int (fac (frL row).length : Nat)) H'
theorem frl_le (row : List Int) : (frL row).length ≤ 40 := by
  have h1 := exs_len40 row
  have h2 := leaves_le row
  have h3 : (frL row).length ≤ (leavesOf (exs row)).length := List.length_filter_le _ _
  omega
theorem ok_number_of_lists (T : Txt K mg) : FnOk P w K mg base CX0 4 T.f_number_of_lists T.fd_number_of_lists ["effect"] (spNumL T.C_Effect) := by
  refine T.F_number_of_lists.ok sc_number_of_lists (fun vs H Q E h => ?_) (fun cdv A outer s H vs Q E hr h => ?_)
  · obtain ⟨x, row, rfl, _⟩ := h
    rfl
  · obtain ⟨x, row, rfl, hx, hp, k⟩ := h
    apply Exists.intro
    apply And.intro
    · apply pss_one
      exact (ps_ret (pe_call (ok_factorial T) (hr.mono (by decide)) (by rfl) T.m_factorial T.F_factorial.kp T.b_factorial .nil pass0 (pa_cons (pe_callB (k_len (K := K) rfl) (by rfl) T.n_len PySem.boot_len (pa_cons (pe_call (ok_free_leaves T) (hr.mono (by decide)) (by rfl) T.m_free_leaves T.F_free_leaves.kp T.b_free_leaves .nil pass0 (pa_cons (pv 0) pa_nil)) pa_nil)) pa_nil)))
    have := frl_le row
    walk_at "sx"
    refine ⟨x, row, rfl, hx, hp, fun l H1 nl e1 hl => ?_⟩
    refine lenL (.inl (.inl hl)) ?_
    rw [List.length_map]
    exact ⟨_, rfl, by omega, k _ e1⟩
/-- for an effect of visits, and for what is no effect -/
def spOnEff (C Ce : Addr) (K : PySem.W.Frag) (f : List Int → Nat) : Sp := fun vs H Q E => ∃ v, vs = [v] ∧ ((∃ (x : Addr) (row : List Int), v = .ref x ∧ EffAt C H x (firstV row) (exs row) ∧ Pg 40 row ∧ ∀ H', Ex H H' → Q (.int (f row : Nat)) H') ∨ (Odd K C H v ∧ E (.ref Ce) none H))
theorem ok_fewest_visits (T : Txt K mg) : FnOk P w K mg base (L2.CX P w) 4 T.f_fewest_visits T.fd_fewest_visits ["effect"] (spOnEff T.C_Effect T.C_InvalidEffectError K few) := by
  refine T.F_fewest_visits.okX sc_fewest_visits (fun vs H Q E h => ?_) (fun cdv A outer s H vs Q E hr h => ?_)
  · obtain ⟨v, rfl, _⟩ := h
    rfl
  · obtain ⟨v, rfl, h⟩ := h
    apply Exists.intro
    apply And.intro
    · apply pss_cons
      · exact (ps_expr (pe_callS (ok_check_effect T) (hr.mono (by decide)) (by rfl) T.m_check_effect T.F_check_effect.kp T.b_check_effect (fun σ => passAt (takes_of rfl rfl rfl rfl) σ) (pa_cons (pv 0) pa_nil)))
      apply pss_one
      exact (ps_ret (pe_call (ok_fewest_in T) (hr.mono (by decide)) (by rfl) T.m_fewest_in T.F_fewest_in.kp T.b_fewest_in .nil pass0 (pa_cons (pv 0) pa_nil)))
    walk_at "sx"
    refine ⟨v, rfl, ?_⟩
    rcases h with ⟨x, row, rfl, hx, hp, k⟩ | ⟨ho, k⟩
    · exact .inl ⟨x, _, _, rfl, hx, ⟨x, row, rfl, hx, hp, k⟩⟩
    · exact .inr ⟨ho, k⟩
theorem ok_count_shortest (T : Txt K mg) : FnOk P w K mg base (L2.CX P w) 5 T.f_count_shortest T.fd_count_shortest ["effect"] (spOnEff T.C_Effect T.C_InvalidEffectError K fun row => fac (frL row).length) := by
  refine T.F_count_shortest.okX sc_count_shortest (fun vs H Q E h => ?_) (fun cdv A outer s H vs Q E hr h => ?_)
  · obtain ⟨v, rfl, _⟩ := h
    rfl
  · obtain ⟨v, rfl, h⟩ := h
    apply Exists.intro
    apply And.intro
    · apply pss_cons
      · exact (ps_expr (pe_callS (ok_check_effect T) (hr.mono (by decide)) (by rfl) T.m_check_effect T.F_check_effect.kp T.b_check_effect (fun σ => passAt (takes_of rfl rfl rfl rfl) σ) (pa_cons (pv 0) pa_nil)))
      apply pss_one
      exact (ps_ret (pe_call (ok_number_of_lists T) (hr.mono (by decide)) (by rfl) T.m_number_of_lists T.F_number_of_lists.kp T.b_number_of_lists .nil pass0 (pa_cons (pv 0) pa_nil)))
    walk_at "sx"
    refine ⟨v, rfl, ?_⟩
    rcases h with ⟨x, row, rfl, hx, hp, k⟩ | ⟨ho, k⟩
    · exact .inl ⟨x, _, _, rfl, hx, ⟨x, row, rfl, hx, hp, k⟩⟩
    · exact .inr ⟨ho, k⟩
end
section
variable {P : Program} {w : World} {K : PySem.W.Frag} {mg : Str → Option Value} {base : Heap}
/-- a dict of pages with the numbers f tells -/
def NumsAt (H : Hp) (u : Addr) (row : List Int) (f : Int → Nat) : Prop := ∃ us : List (Int × Int), H u = some (.dK (us.map itK)) ∧ us.length ≤ 40 ∧ ∀ p ∈ row, getI us p = some (f p : Int)
theorem putI_same {us : List (Int × Int)} {x y z : Int} (h : getI us x = some z) : (putI us x y).length = us.length := by
  unfold putI
  have : (us.any fun q => decide (q.1 = x)) = true := by rw [getI_any, h]; rfl
  rw [if_pos this, List.length_map]
theorem NumsAt.get {H : Hp} {u : Addr} {row : List Int} {f : Int → Nat} (h : NumsAt H u row f) {p : Int} (hp : p ∈ row) : DGet H u (.int p) (some (.int (f p : Nat))) := by
  obtain ⟨us, h1, h2, h3⟩ := h
  exact .inl ⟨_, Sum.inl p, .inl h1, rfl, by rw [getI_val, h3 p hp]; rfl⟩
theorem NumsAt.put {H : Hp} {u : Addr} {row : List Int} {f : Int → Nat} (h : NumsAt H u row f) {p : Int} (hp : p ∈ row) (z : Nat) : ∃ o, DPut H u (.int p) (.int (z : Nat)) (upd H u o) ∧ NumsAt (upd H u o) u row (fun y => if y = p then z else f y) := by
  obtain ⟨us, h1, h2, h3⟩ := h
  refine ⟨.dK (putK (us.map itK) (Sum.inl p) (.int (z : Nat))), .inl ⟨_, Sum.inl p, h1, rfl, BC.sz_lt (by rw [List.length_map]; omega), rfl⟩, putI us p z, by rw [upd_same, putI_put], ?_, fun y hy => ?_⟩
  · rw [putI_same (h3 p hp)]; exact h2
  · rw [getI_put]
    by_cases c : y = p
    · simp only [c, if_true]
    · simp only [c, if_false]; exact h3 y hy
theorem NumsAt.congr {H H' : Hp} {u : Addr} {row : List Int} {f g : Int → Nat} (h : NumsAt H u row f) (e : H' u = H u) (q : ∀ p ∈ row, f p = g p) : NumsAt H' u row g := by
  obtain ⟨us, h1, h2, h3⟩ := h
  exact ⟨us, e.trans h1, h2, fun p hp => by rw [h3 p hp, q p hp]⟩
/-- how many of the first pairs lead to a page from another one -/
def cntI (row : List Int) (i : Nat) (y : Int) : Nat := (((exs row).take i).filter fun q => decide (q.2 = y ∧ q.1 ≠ y)).length
theorem cntI_all (row : List Int) (y : Int) : cntI row (exs row).length y = EF.cnt row [] y := by
  unfold cntI EF.cnt
  rw [List.take_of_length_le (Nat.le_refl _)]
  congr 1
  refine List.filter_congr fun q _ => decide_eq_decide.mpr ⟨fun h => ⟨h.1, h.2, by simp⟩, fun h => ⟨h.1, h.2.1⟩⟩
theorem cntI_succ {row : List Int} {i : Nat} {q : Int × Int} (hq : (exs row)[i]? = some q) (y : Int) : cntI row (i + 1) y = cntI row i y + (if q.2 = y ∧ q.1 ≠ y then 1 else 0) := by
  unfold cntI
  rw [List.take_add_one, hq, Option.toList_some, List.filter_append, List.length_append]
  congr 1
  by_cases c : q.2 = y ∧ q.1 ≠ y
  · rw [if_pos c, List.filter_cons_of_pos (by simpa using c)]; rfl
  · rw [if_neg c, List.filter_cons_of_neg (by simpa using c)]; rfl
/-- all but two addresses stay -/
def F2 (u f : Addr) (H H' : Hp) : Prop := ∀ b o, b ≠ u → b ≠ f → H b = some o → H' b = some o
theorem F2.refl (u f : Addr) (H : Hp) : F2 u f H H := fun _ _ _ _ h => h
theorem F2.put1 {u f : Addr} {H H' : Hp} {o : HO} (h : F2 u f H H') : F2 u f H (upd H' u o) := fun b x n1 n2 e => by rw [upd_ne n1]; exact h b x n1 n2 e
theorem F2.put2 {u f : Addr} {H H' : Hp} {o : HO} (h : F2 u f H H') : F2 u f H (upd H' f o) := fun b x n1 n2 e => by rw [upd_ne n2]; exact h b x n1 n2 e
theorem F2.ex {u f : Addr} {H H1 H' : Hp} (g : F2 u f H1 H') (e : Ex H H1) (nu : H u = none) (nf : H f = none) : Ex H H' := fun b o h => g b o (ne_of_none h nu) (ne_of_none h nf) (e b o h)
theorem pages_mem {row : List Int} (hp : Pg 40 row) {x : Int} : x ∈ (exs row).map (·.1) ↔ x ∈ row := by
  rw [List.mem_map]
  constructor
  · rintro ⟨⟨c, y⟩, h1, e⟩
    cases e
    exact (mem_nx ((mem_exs hp).mp h1)).1
  · intro m
    obtain ⟨y, hy⟩ := nx_mem m
    exact ⟨(x, y), (mem_exs hp).mpr hy, rfl⟩
theorem lw_dle {row D found T : List Int} {b : Nat} (hp : Pg 40 row) (W : LW row D found T b) : D.length ≤ (exs row).length := by
  have := sub_len (m := (exs row).map (·.1)) W.dnd fun y hy => (pages_mem hp).mpr (W.dm y hy).1
  rw [List.length_map] at this
  exact this
theorem init_last {row : List Int} (hp : Pg 40 row) (hne : row ≠ []) (y : Int) (hy : (if lfB row = true then [] else [row.headD 0] : List Int).getLast? = some y) : EF.cnt row [] y ≠ 0 ∨ y = lst row := by
  cases c : lfB row with
  | true => rw [c, if_pos rfl] at hy; cases hy
  | false =>
    rw [c, if_neg (by decide)] at hy
    have e : row.headD 0 = y := by simpa using hy
    subst e
    refine .inl ((cnt_pos hp).mpr ?_)
    have hh : row.headD 0 ∈ row := by
      cases row with
      | nil => exact absurd rfl hne
      | cons a r => exact List.mem_cons_self
    unfold lfB at c
    have c' := of_decide_eq_false c
    by_cases q : ∃ c, c ≠ row.headD 0 ∧ nx row c = some (row.headD 0)
    · obtain ⟨d, h1, h2⟩ := q
      exact ⟨d, h1, h2, by simp⟩
    · exact absurd ((mem_leaves hp).mpr ⟨hh, fun d h1 h2 => q ⟨d, h1, h2⟩⟩) c'
theorem last_at {f : List Int} {q : Int} (h : f.getLast? = some q) : (f.map V.int)[(f.map V.int).length - 1]? = some (.int q) := by
  rw [List.length_map, List.getElem?_map, ← List.getLast?_eq_getElem?, h]
  rfl
def bodyLW (K : PySem.W.Frag) : TS := tSeq (tDrop (tBM K "list" rAppend (tVar 5) (tCons (tVar 6) tNil)))
  (tWhile (tAnd (tTest (tOp rEq (tDGet (tVar 3) (tOp (rIxL K) (tVar 5) (tUn (rU fun i => V.int (-i)) (tC (V.int 1))))) (tC (V.int 0))))
    (tTest (tOp rNe (tDGet (tVar 2) (tOp (rIxL K) (tVar 5) (tUn (rU fun i => V.int (-i)) (tC (V.int 1))))) (tOp (rIxL K) (tVar 5) (tUn (rU fun i => V.int (-i)) (tC (V.int 1)))))))
    (tSeq (tAsg (tDGet (tVar 2) (tOp (rIxL K) (tVar 5) (tUn (rU fun i => V.int (-i)) (tC (V.int 1))))) (gName 8))
      (tSeq (sDAug (tVar 3) (tVar 8) (tC (V.int 1)) rSub) (tDrop (tBM K "list" rAppend (tVar 5) (tCons (tVar 8) tNil))))))
def spListW (C : Addr) (K : PySem.W.Frag) : Sp := fun vs H Q _ => ∃ (x ol : Addr) (row order : List Int), vs = [.ref x, .ref ol] ∧ EffAt C H x (firstV row) (exs row) ∧ Pg 40 row ∧ H ol = some (.lst (order.map V.int)) ∧ order.Perm (frL row) ∧ ∀ l found H', H l = none → Ex H H' → H' l = some (.lst ((found : List Int).map V.int)) → Short row found → Q (.ref l) H'
theorem ok_list_with (T : Txt K mg) : FnOk P w K mg base CX0 3 T.f_list_with T.fd_list_with ["effect", "order"] (spListW T.C_Effect K) := by
  refine T.F_list_with.ok sc_list_with (fun vs H Q E h => ?_) (fun cdv A outer s H vs Q E hr h => ?_)
  · obtain ⟨x, ol, row, order, rfl, _⟩ := h
    rfl
  · obtain ⟨x, ol, row, order, rfl, hx, hp, hO, hperm, k⟩ := h
    apply Exists.intro
    apply And.intro
    · apply pss_cons
      · apply ps_if
        · exact (pt_cmpR op_eq (pe_callB (call_lenOwn T.h_Effect___len T.i_Effect___len (ok_Effect___len T) (hr.mono (by decide)) T.b_Effect___len pass0) (by rfl) T.n_len PySem.boot_len (pa_cons (pv 0) pa_nil)) pe_int (by rfl))
        · apply pss_one
          exact (ps_ret (pe_lst pa_nil))
        · exact pss_nil
      apply pss_cons
      · exact (ps_set (i := 2) sc_list_with.nd rfl (.inl rfl) (pe_callTy (k_dictP (K := K) rfl rfl) (by rfl) T.n_dict (by decide +kernel) (pa_cons (pe_prop (pv 0) T.cl_Effect T.p_Effect_exits (ok_Effect_exits T) (hr.mono (by decide)) T.b_Effect_exits .nil pass0 rfl) pa_nil)))
      apply pss_cons
      · exact (ps_lock (ps_setDc (i := 3) (own := [("page", 7)]) rfl sc_list_with.nd rfl rfl (sw_trueD rfl rfl rfl (by decide +kernel)) (pi_keys (pv 2)) (blkOk_by (own := [("page", 7)]) (N := ["effect", "order", "exit_of", "open_pages", "is_leaf", "found", "leaf", "page", "later"]) (sc := defScope s_list_with) (by decide +kernel)) (fun _ _ _ _ _ => by exact (pg_name (i := 7) sc_list_with.nd rfl (.inl rfl))) (fun _ _ _ _ _ => by exact pts_nil) (fun _ _ _ _ _ => by exact (pv 7)) (fun _ _ _ _ _ => by exact pe_int)))
      apply pss_cons
      · apply ps_for PassesOwn.never rfl
        · exact (k_pi_list (K := K) rfl (pe_prop (pv 0) T.cl_Effect T.p_Effect_exits (ok_Effect_exits T) (hr.mono (by decide)) T.b_Effect_exits .nil pass0 rfl))
        · exact (k_tup (K := K) (n := 2) rfl rfl (pgs_cons (pg_name (i := 7) sc_list_with.nd rfl (.inl rfl)) (pgs_cons (pg_name (i := 8) sc_list_with.nd rfl (.inl rfl)) pgs_nil)))
        · apply pss_one
          apply ps_if
          · exact (pt_cmpR op_ne (pv 7) (pv 8) (by rfl))
          · apply pss_one
            exact (ps_daug (hu_of hr) (pv 3) (pv 8) pe_int in_add (fun _ _ _ => rfl))
          · exact pss_nil
      apply pss_cons
      · exact (ps_set (i := 4) sc_list_with.nd rfl (.inl rfl) (pe_cmpR (k_in (K := K) rfl) (pe_prop (pv 0) T.cl_Effect T.p_Effect_first (ok_Effect_first T) (hr.mono (by decide)) T.b_Effect_first .nil pass0 rfl) (pe_prop (pv 0) T.cl_Effect T.p_Effect_leaves (ok_Effect_leaves T) (hr.mono (by decide)) T.b_Effect_leaves .nil pass0 rfl) (by rfl)))
      apply pss_cons
      · exact (ps_set (i := 5) sc_list_with.nd rfl (.inl rfl) (pe_ifExp (pt_val (pv 4)) (pe_lst pa_nil) (pe_lst (pa_cons (pe_prop (pv 0) T.cl_Effect T.p_Effect_first (ok_Effect_first T) (hr.mono (by decide)) T.b_Effect_first .nil pass0 rfl) pa_nil))))
      apply pss_cons
      · apply ps_for PassesOwn.never rfl
        · exact (k_pi_list (K := K) rfl (pe_ifExp (pt_val (pv 4)) (pe_op op_cat (pe_lst (pa_cons (pe_prop (pv 0) T.cl_Effect T.p_Effect_first (ok_Effect_first T) (hr.mono (by decide)) T.b_Effect_first .nil pass0 rfl) pa_nil)) (pv 1)) (pv 1)))
        · exact (pg_name (i := 6) sc_list_with.nd rfl (.inl rfl))
        · apply pss_cons
          · exact (ps_expr (k_bm (K := K) rfl (pe_bm PySem.F.plainAttrs_list PySem.F.slot_list_append PySem.F.type_list_append mt_append (pv 5) (pa_cons (pv 6) pa_nil))))
          apply pss_one
          apply ps_while PassesOwn.never
          · exact (PW.pt (pw_and (pt_cmpR op_eq (pe_dget (hu_of hr) (pv 3) (pe_ix (k_ix_list (K := K) rfl) (pv 5) (pe_un un_neg pe_int) (fun _ _ => rfl)) (fun _ _ => rfl)) pe_int (by rfl)) (pw_and1 (pt_cmpR op_ne (pe_dget (hu_of hr) (pv 2) (pe_ix (k_ix_list (K := K) rfl) (pv 5) (pe_un un_neg pe_int) (fun _ _ => rfl)) (fun _ _ => rfl)) (pe_ix (k_ix_list (K := K) rfl) (pv 5) (pe_un un_neg pe_int) (fun _ _ => rfl)) (by rfl)))))
          · apply pss_cons
            · exact (ps_set (i := 8) sc_list_with.nd rfl (.inl rfl) (pe_dget (hu_of hr) (pv 2) (pe_ix (k_ix_list (K := K) rfl) (pv 5) (pe_un un_neg pe_int) (fun _ _ => rfl)) (fun _ _ => rfl)))
            apply pss_cons
            · exact (ps_daug (hu_of hr) (pv 3) (pv 8) pe_int in_sub (fun _ _ _ => rfl))
            apply pss_one
            exact (ps_expr (k_bm (K := K) rfl (pe_bm PySem.F.plainAttrs_list PySem.F.slot_list_append PySem.F.type_list_append mt_append (pv 5) (pa_cons (pv 8) pa_nil))))
      apply pss_one
      exact (ps_ret (pv 5))
    have hx0 := hx
    obtain ⟨dx, t, d0, ts0, h1, h2, h3, h4, h5⟩ := hx0
    have h40 := exs_len40 row
    have hlv := leaves_le row
    have hol : order.length ≤ 40 := by rw [hperm.length_eq]; exact frl_le row
    by_cases hne : row = []
    · subst hne
      walk_at "sx"
      refine ⟨x, dx, _, rfl, h1, ⟨x, _, _, rfl, hx, ⟨_, rfl, by omega, by omega, ?_⟩⟩⟩
      have e0 : (exs []).length = 0 := by decide +kernel
      walk_at "sx"
      rw [e0, if_pos (by rfl)]
      refine ⟨sz_ok (by omega), fun l nl => ?_⟩
      exact k l [] _ nl (Ex.new nl) upd_same Short.nil_nil
    have n0 := exs_ne hp hne
    have ndk : ((exs row).map (·.1)).Nodup := srt_nodup (exs_srt row)
    have hget : ∀ i, i < (exs row).length → (exs row)[i]? = some ((exs row).getD i (0, 0)) := fun i hi => by rw [List.getD_eq_getElem?_getD, List.getElem?_eq_getElem hi]; rfl
    refine seq_cut (fun σ' H' => σ' = [some (.ref x), some (.ref ol), none, none, none, none, none, none, none] ∧ Ex H H') (fun N hN => ?_) (fun σ1 H1 hC => ?_)
    · walk_at "sx"
      refine ⟨x, dx, _, rfl, h1, ⟨x, _, _, rfl, hx, ⟨_, rfl, by omega, by omega, ?_⟩⟩⟩
      walk_at "sx"
      rw [if_neg (by omega)]
      exact hN _ _ ⟨rfl, Ex.refl _⟩
    obtain ⟨rfl, e1⟩ := hC
    refine seq_cut (fun σ' H' => ∃ d, σ' = [some (.ref x), some (.ref ol), some (.ref d), none, none, none, none, none, none] ∧ Ex H1 H' ∧ H1 d = none ∧ H' d = some (.dK ((exs row).map itK))) (fun N hN => ?_) (fun σ2 H2 hC => ?_)
    · walk_at "sx"
      refine ⟨_, _, e1 _ _ h1, ⟨x, _, _, rfl, hx.ex e1, fun l ts H2 nl e2 hl hlen hts => ?_⟩⟩
      refine ⟨l, ts, exs row, rfl, ⟨.inl (.inl hl), hlen, hts⟩, ndk, fun d nd => ?_⟩
      exact hN _ _ ⟨d, rfl, e2.trans (Ex.new nd), fresh_back e2 nd, upd_same⟩
    obtain ⟨d, rfl, e2, nd, hd⟩ := hC
    refine seq_cut (fun σ' H' => ∃ u, σ' = [some (.ref x), some (.ref ol), some (.ref d), some (.ref u), none, none, none, none, none] ∧ Ex H2 H' ∧ H2 u = none ∧ NumsAt H' u row fun _ => 0) (fun N hN => ?_) (fun σ3 H3 hC => ?_)
    · walk_at "sx"
      refine ⟨d, _, hd, trivial, fun od => ⟨od, .inl ⟨(exs row).map itK, upd_same, fun D nD => ?_⟩⟩⟩
      have nDd : D ≠ d := fun e => by rw [e, upd_same] at nD; cases nD
      have nD2 : H2 D = none := by rw [upd_ne nDd] at nD; exact nD
      refine dcg_keys (Pv := fun i H' => Ex (upd H2 d (.frz od (.dK ((exs row).map itK)))) H' ∧ ∃ us : List (Int × Int), H' D = some (.dK (us.map itK)) ∧ us.length ≤ i ∧ ∀ j, j < i → ∀ q, (exs row)[j]? = some q → getI us q.1 = some 0) ⟨Ex.new nD, [], upd_same, Nat.le_refl _, fun j hj => by omega⟩ (fun i H' _ hP => hP.1 _ _ upd_same) (fun i kk v H' hkv hP => ?_) (fun H' hP => ?_)
      · obtain ⟨e, us, hD, hul, hu⟩ := hP
        rw [List.getElem?_map] at hkv
        obtain ⟨q, hq, hkq⟩ := Option.map_eq_some_iff.mp hkv
        have hk1 : kk = Sum.inl q.1 := (congrArg Prod.fst hkq).symm
        subst hk1
        have hil := (List.getElem?_eq_some_iff.mp hq).1
        refine ⟨by rfl, ?_⟩
        simp only [wipe, List.set_cons_zero, List.set_cons_succ, List.map_cons, List.map_nil, List.foldl_cons, List.foldl_nil]
        walk_at "sx"
        refine ⟨_, Sum.inl q.1, rfl, hD, BC.sz_lt (by rw [List.length_map]; omega), e.mut nD, putI us q.1 0, ?_, Nat.le_trans (putI_len _ _ _) (by omega), fun j hj q' hq' => ?_⟩
        · rw [upd_same, putI_put]
        · rw [getI_put]
          split
          · rfl
          · next ne =>
            by_cases c : j = i
            · subst c
              rw [hq] at hq'
              cases hq'
              exact absurd rfl ne
            · exact hu j (by omega) q' hq'
      · obtain ⟨e, us, hD, hul, hu⟩ := hP
        refine ⟨e _ _ upd_same, hN _ _ ⟨D, rfl, frz_ex hd e, nD2, us, by rw [upd_ne nDd]; exact hD, ?_, fun p hpr => ?_⟩⟩
        · rw [List.length_map] at hul; omega
        · obtain ⟨y, hy⟩ := nx_mem hpr
          obtain ⟨j, hj⟩ := List.mem_iff_getElem?.mp ((mem_exs hp).mpr hy)
          have := hu j (by rw [List.length_map]; exact (List.getElem?_eq_some_iff.mp hj).1) _ hj
          exact this
    obtain ⟨u, rfl, e3, nu, hu⟩ := hC
    have hx3 := hx.ex ((e1.trans e2).trans e3)
    have nu2 := nu
    refine seq_cut (fun σ' H' => ∃ l7 l8, σ' = [some (.ref x), some (.ref ol), some (.ref d), some (.ref u), none, none, none, l7, l8] ∧ Fx u H3 H' ∧ NumsAt H' u row (EF.cnt row [])) (fun N hN => ?_) (fun σ4 H4 hC => ?_)
    · walk_at "sx"
      refine ⟨_, _, ((e1.trans e2).trans e3) _ _ h1, ⟨x, _, _, rfl, hx3, fun l ts H4 nl e4 hl hlen hts => ?_⟩⟩
      refine ⟨l, rfl, ⟨_, .inl (.inl hl)⟩, ?_⟩
      refine lg_list (xs := ts.map V.ref) (fun i σ' H' => ∃ l7 l8, σ' = [some (.ref x), some (.ref ol), some (.ref d), some (.ref u), none, none, none, l7, l8] ∧ Fx u H4 H' ∧ NumsAt H' u row (cntI row i)) ?_ ?_ (fun i v σ' H' hv hP => ?_) (fun σ' H' hP => ?_)
      · refine ⟨none, none, rfl, Fx.refl _ _, ?_⟩
        obtain ⟨us, g1, g2, g3⟩ := hu
        exact ⟨us, e4 _ _ g1, g2, g3⟩
      · intro i σ' H' _ hP
        obtain ⟨l7, l8, _, fx, _⟩ := hP
        have nlu : l ≠ u := fun e => by
          obtain ⟨us, g1, _⟩ := hu
          rw [e, g1] at nl
          cases nl
        exact .inl (.inl (fx _ _ nlu hl))
      · obtain ⟨l7, l8, rfl, fx, hn⟩ := hP
        obtain ⟨tt, ht, rfl⟩ := refs_at hv
        have hi := (List.getElem?_eq_some_iff.mp ht).1
        have hq := hget i (by omega)
        have hpr := hts i tt ht
        have htu : tt ≠ u := fun e => by
          obtain ⟨us, g1, _⟩ := hu
          have g2 := e4 _ _ g1
          rw [← e] at g2
          have g3 : H4 tt = some (.tup [.int ((exs row).getD i (0, 0)).1, .int ((exs row).getD i (0, 0)).2]) := hpr
          rw [g2] at g3
          cases g3
        have hsucc := fun y => cntI_succ hq y
        have hmem := (mem_exs hp (x := ((exs row).getD i (0, 0)).1) (y := ((exs row).getD i (0, 0)).2)).mp (List.mem_of_getElem? hq)
        generalize (exs row).getD i (0, 0) = q at hpr hq hsucc hmem
        refine g_two (fx _ _ htu (pr_ev hpr)) ?_
        walk_at "sx"
        by_cases c : q.1 = q.2
        · rw [if_neg (by simpa using c)]
          refine ⟨_, _, ⟨rfl, rfl⟩, fx, hn.congr rfl fun y _ => ?_⟩
          rw [hsucc y, if_neg (fun z => z.2 (by rw [c]; exact z.1))]
          rfl
        · rw [if_pos (by simpa using c)]
          refine ⟨_, hn.get (mem_nx hmem).2, ?_⟩
          walk_at "sx"
          obtain ⟨o, d1, d2⟩ := hn.put (mem_nx hmem).2 (cntI row i q.2 + 1)
          refine ⟨_, _, rfl, rfl, _, d1, _, _, ⟨rfl, rfl⟩, fx.trans Fx.put, d2.congr rfl fun y _ => ?_⟩
          rw [hsucc y]
          by_cases cy : y = q.2
          · subst cy
            rw [if_pos rfl, if_pos ⟨rfl, c⟩]
          · rw [if_neg cy, if_neg (fun z => cy z.1.symm)]
            rfl
      · obtain ⟨l7, l8, rfl, fx, hn⟩ := hP
        refine hN _ _ ⟨l7, l8, rfl, (Fx.of e4).trans fx, hn.congr rfl fun y _ => ?_⟩
        rw [List.length_map, hlen, cntI_all]
    obtain ⟨l7, l8, rfl, fx4, hn⟩ := hC
    have E24 : Ex H2 H4 := ((Fx.of e3).trans fx4).ex nu
    have E4 : Ex H H4 := (e1.trans e2).trans E24
    refine seq_cut (fun σ' H' => σ' = [some (.ref x), some (.ref ol), some (.ref d), some (.ref u), some (.bl (lfB row)), none, none, l7, l8] ∧ Ex H4 H') (fun N hN => ?_) (fun σ5 H5 hC => ?_)
    · walk_at "sx"
      refine ⟨_, _, E4 _ _ h1, ⟨x, _, _, rfl, hx.ex E4, ?_⟩⟩
      refine ⟨_, _, E4 _ _ h1, ⟨x, _, _, rfl, hx.ex E4, by omega, fun b2 H5 nb2 e5 hb2 => ?_⟩⟩
      rw [first_head hne]
      exact inL (.inl (.inl hb2)) (hN _ _ ⟨rfl, e5⟩)
    obtain ⟨rfl, e5⟩ := hC
    have E5 := E4.trans e5
    refine seq_cut (fun σ' H' => ∃ f, σ' = [some (.ref x), some (.ref ol), some (.ref d), some (.ref u), some (.bl (lfB row)), some (.ref f), none, l7, l8] ∧ Ex H5 H' ∧ H5 f = none ∧ H' f = some (.lst ((if lfB row = true then [] else [row.headD 0] : List Int).map V.int))) (fun N hN => ?_) (fun σ6 H6 hC => ?_)
    · walk_at "sx"
      cases c : lfB row with
      | true =>
        walk_at "sx"
        refine ⟨sz_ok (by omega), fun f nf => ?_⟩
        exact hN _ _ ⟨f, by rw [c], Ex.new nf, nf, by rw [upd_same, c]; rfl⟩
      | false =>
        walk_at "sx"
        refine ⟨_, _, E5 _ _ h1, ⟨x, _, _, rfl, hx.ex E5, sz_ok (by omega), fun f nf => ?_⟩⟩
        rw [first_head hne]
        exact hN _ _ ⟨f, by rw [c], Ex.new nf, nf, by rw [upd_same, c]; rfl⟩
    obtain ⟨f, rfl, e6, nf, hf⟩ := hC
    have E6 := E5.trans e6
    have loop : ∀ (a : Addr) (H7 : Hp), Ex H6 H7 → (∀ H', F2 u f H7 H' → SqL K H' a ((todo row order).map V.int)) → LoopG (Itl K a) (gName 6) (bodyLW K) { nx := tRet (tVar 5) { nx := fun x H' => Q V.non H', rt := Q }, rt := Q } [some (.ref x), some (.ref ol), some (.ref d), some (.ref u), some (.bl (lfB row)), some (.ref f), none, l7, l8] H7 := fun a H7 e7 hS => by
      obtain ⟨us0, gu0, gl0, _⟩ := id hn
      have nfu : f ≠ u := fun e => by
        have := e5 _ _ gu0
        rw [← e, nf] at this
        cases this
      have hd7 : ∀ H', F2 u f H7 H' → H' d = some (.dK ((exs row).map itK)) := fun H' g => by
        have e := e7 _ _ (e6 _ _ (e5 _ _ (E24 _ _ hd)))
        refine g d _ (fun e' => ?_) (fun e' => ?_) e
        · rw [← e'] at nu; rw [nu] at hd; cases hd
        · have := e5 _ _ (E24 _ _ hd)
          rw [e', nf] at this
          cases this
      refine lg_list (xs := (todo row order).map V.int) (fun i σ' H' => ∃ D found l6 l7 l8, σ' = [some (.ref x), some (.ref ol), some (.ref d), some (.ref u), some (.bl (lfB row)), some (.ref f), l6, l7, l8] ∧ F2 u f H7 H' ∧ NumsAt H' u row (EF.cnt row D) ∧ H' f = some (.lst ((found : List Int).map V.int)) ∧ LW row D found ((todo row order).take i) (if lfB row = true then 0 else 1) ∧ ∀ y, found.getLast? = some y → EF.cnt row D y ≠ 0 ∨ y = lst row) ?_ (fun i σ' H' _ hP => by obtain ⟨D, found, l6, l7, l8, _, g, _⟩ := hP; exact hS _ g) (fun i v σ' H' hv hP => ?_) (fun σ' H' hP => ?_)
      · refine ⟨[], _, none, l7, l8, rfl, F2.refl _ _ _, hn.congr ?_ fun _ _ => rfl, e7 _ _ hf, LW.init hp hne, fun y hy => ?_⟩
        · rw [gu0, e7 _ _ (e6 _ _ (e5 _ _ gu0))]
        · exact init_last hp hne y hy
      · obtain ⟨D, found, l6, l7', l8', rfl, g, hu7, hf7, W, hst⟩ := hP
        obtain ⟨z, hz, rfl⟩ := ints_at hv
        have tl : (todo row order).length ≤ 41 := by
          unfold todo
          split
          · rw [List.length_cons]; omega
          · omega
        have hTl : ((todo row order).take i).length ≤ 41 := by rw [List.length_take]; omega
        have hDl := lw_dle hp W
        have hfl := W.ln
        have hb1 : (if lfB row = true then 0 else 1) ≤ 1 := by split <;> omega
        have hi := (List.getElem?_eq_some_iff.mp hz).1
        have tp := todo_perm hne hperm
        have tnd : (todo row order).Nodup := tp.nodup_iff.mpr (leaves_nodup row)
        have htk : (todo row order).take (i + 1) = (todo row order).take i ++ [z] := by rw [List.take_add_one, hz]; rfl
        have hzT : z ∉ (todo row order).take i := fun m => by
          have h := tnd.sublist (List.take_sublist (i + 1) _)
          rw [htk] at h
          exact (List.nodup_append.mp h).2.2 z m z (List.mem_singleton.mpr rfl) rfl
        have hzl : z ∈ leavesOf (exs row) := tp.mem_iff.mp (List.mem_of_getElem? hz)
        have W1 := W.leaf hp hst hzl hzT (fun e => by
          rw [e] at hfl
          rw [List.length_nil, List.length_take] at hfl
          have i0 : i = 0 := by omega
          subst i0
          have c : lfB row = true := by
            cases c : lfB row with
            | true => rfl
            | false => rw [c, if_neg (by decide)] at hfl; omega
          unfold todo at hz
          rw [if_pos c] at hz
          exact (Option.some.inj hz).symm)
        rw [← htk] at W1
        unfold bodyLW
        walk_at "sx"
        refine ⟨tyL hf7, ?_⟩
        refine appL hf7 (BC.sz_lt (by rw [List.length_map]; omega)) ?_
        have hTl1 : ((todo row order).take (i + 1)).length ≤ 41 := by rw [List.length_take]; omega
        refine ⟨fun m σ' H' => ∃ D found l8, m = (exs row).length - D.length ∧ σ' = [some (.ref x), some (.ref ol), some (.ref d), some (.ref u), some (.bl (lfB row)), some (.ref f), some (.int z), l7', l8] ∧ F2 u f H7 H' ∧ NumsAt H' u row (EF.cnt row D) ∧ H' f = some (.lst ((found : List Int).map V.int)) ∧ LW row D found ((todo row order).take (i + 1)) (if lfB row = true then 0 else 1) ∧ found ≠ [], ⟨_, D, found ++ [z], l8', rfl, rfl, g.put2, hu7.congr (upd_ne nfu.symm) fun _ _ => rfl, by rw [upd_same, List.map_append]; rfl, W1, by simp⟩, fun m σ' H' hW => ?_⟩
        obtain ⟨D1, found1, l8, rfl, rfl, g1, hu1, hf1, W2, hne1⟩ := hW
        have hfl2 := W2.ln
        have hDl2 := lw_dle hp W2
        obtain ⟨q, hq⟩ : ∃ q, found1.getLast? = some q := ⟨_, List.getLast?_eq_some_getLast hne1⟩
        have hqr := W2.fm q (getLast?_mem' hq)
        have hlast := last_at hq
        obtain ⟨y, hy⟩ := nx_mem hqr
        have hd1 := hd7 _ g1
        have dg : DGet H' d (.int q) (some (.int y)) := .inl ⟨_, Sum.inl q, .inl hd1, rfl, by rw [getI_val, (getI_mem ndk).mp ((mem_exs hp).mpr hy)]; rfl⟩
        walk_at "sx"
        refine ixL (.inl (.inl hf1)) (atI_last hlast) ?_
        refine ⟨_, hu1.get hqr, ?_⟩
        walk_at "sx"
        by_cases c0 : EF.cnt row D1 q = 0
        · rw [if_pos (by omega)]
          refine ixL (.inl (.inl hf1)) (atI_last hlast) ?_
          refine ⟨_, dg, ?_⟩
          refine ixL (.inl (.inl hf1)) (atI_last hlast) ?_
          walk_at "sx"
          by_cases cy : y = q
          · rw [if_neg (by simpa using cy)]
            refine ⟨D1, found1, _, _, _, ⟨rfl, rfl, rfl⟩, g1, hu1, hf1, W2, fun y' hy' => ?_⟩
            rw [hq] at hy'
            cases hy'
            rcases nx_ix hy with ⟨_, e⟩ | ⟨e, _⟩
            · exact .inr e
            · exact absurd cy.symm e
          · rw [if_pos (by simpa using cy)]
            have qD := W2.la q hq
            have W3 := W2.step hp hq c0 hy cy
            have hDl3 := lw_dle hp W3
            rw [List.length_cons] at hDl3
            have hce := cnt_exit hp hy cy qD
            have hyr := (mem_nx hy).2
            refine ⟨fun σ' H' => ∃ D found l8, (exs row).length - D.length < (exs row).length - D1.length ∧ σ' = [some (.ref x), some (.ref ol), some (.ref d), some (.ref u), some (.bl (lfB row)), some (.ref f), some (.int z), l7', l8] ∧ F2 u f H7 H' ∧ NumsAt H' u row (EF.cnt row D) ∧ H' f = some (.lst ((found : List Int).map V.int)) ∧ LW row D found ((todo row order).take (i + 1)) (if lfB row = true then 0 else 1) ∧ found ≠ [], fun σ2 H2 hN => ?_, ?_⟩
            · obtain ⟨D, fo, l9, lt, rfl, a1, a2, a3, a4, a5⟩ := hN
              exact ⟨_, lt, D, rfl, fo, l9, rfl, a1, a2, a3, a4, a5⟩
            · refine ixL (.inl (.inl hf1)) (atI_last hlast) ?_
              refine ⟨_, dg, ?_⟩
              refine ⟨_, hu1.get hyr, _, _, rfl, rfl, ?_⟩
              have ev : ((EF.cnt row D1 y : Nat) : Int) - 1 = ((EF.cnt row (q :: D1) y : Nat) : Int) := by omega
              rw [ev]
              obtain ⟨o, d1, d2⟩ := hu1.put hyr (EF.cnt row (q :: D1) y)
              have hf2 : upd H' u o f = some (.lst (found1.map V.int)) := by rw [upd_ne nfu]; exact hf1
              refine ⟨_, d1, tyL hf2, ?_⟩
              refine appL hf2 (BC.sz_lt (by rw [List.length_map]; omega)) ?_
              refine ⟨q :: D1, found1 ++ [y], _, by rw [List.length_cons]; omega, rfl, g1.put1.put2, d2.congr (upd_ne nfu.symm) fun p hpr => ?_, by rw [upd_same, List.map_append]; rfl, W3, by simp⟩
              by_cases cp : p = y
              · simp only [cp, if_true]
              · simp only [cp, if_false]
                exact (cnt_other hp hy cp).symm
        · rw [if_neg (by omega)]
          refine ⟨D1, found1, _, _, _, ⟨rfl, rfl, rfl⟩, g1, hu1, hf1, W2, fun y' hy' => ?_⟩
          rw [hq] at hy'
          cases hy'
          exact .inl c0
      · obtain ⟨D, found, l6, l7', l8', rfl, g, hu7, hf7, W, hst⟩ := hP
        walk_at "sx"
        rw [List.length_map, List.take_of_length_le (Nat.le_refl _)] at W
        exact k f found H' (fresh_back E5 nf) (g.ex (E6.trans e7) (fresh_back (e1.trans e2) nu) (fresh_back E5 nf)) hf7 (W.short hp hne hperm hst)
    walk_at "sx"
    have keep : ∀ {a : Addr} {xs : List V} {H7 : Hp}, SqL K H7 a xs → a ≠ f → a ≠ u → ∀ H', F2 u f H7 H' → SqL K H' a xs := fun h n1 n2 H' g => by
      rcases h with h | h
      · rcases h with h | ⟨o, h⟩
        · exact .inl (.inl (g _ _ n2 n1 h))
        · exact .inl (.inr ⟨o, g _ _ n2 n1 h⟩)
      · exact .inr h
    have hO6 := E6 _ _ hO
    have hO5 := E5 _ _ hO
    have hnu : H u = none := fresh_back (e1.trans e2) nu
    have olu : ol ≠ u := ne_of_none hO hnu
    have olf : ol ≠ f := ne_of_none hO5 nf
    cases c : lfB row with
    | true =>
      walk_at "sx"
      refine ⟨_, _, E6 _ _ h1, ⟨x, _, _, rfl, hx.ex E6, sz_ok (by omega), fun p np => ?_⟩⟩
      rw [first_head hne]
      have ep := Ex.new np (o := .lst [V.int (row.headD 0)])
      refine catL upd_same (ep _ _ hO6) (sz_ok (by rw [List.length_map]; simp; omega)) fun q nq => ?_
      have eq := Ex.new nq (o := .lst ([V.int (row.headD 0)] ++ order.map V.int))
      have hq := upd_same (H := upd H6 p (.lst [V.int (row.headD 0)])) (a := q) (o := .lst ([V.int (row.headD 0)] ++ order.map V.int))
      refine ⟨q, rfl, ⟨_, .inl (.inl hq)⟩, ?_⟩
      have et : [V.int (row.headD 0)] ++ order.map V.int = (todo row order).map V.int := by
        unfold todo
        rw [if_pos c]
        rfl
      have nqf : q ≠ f := fun e => by
        have := ep _ _ hf
        rw [← e, nq] at this
        cases this
      have nqu : q ≠ u := fun e => by
        obtain ⟨us0, gu0, _⟩ := id hn
        have := ep _ _ (e6 _ _ (e5 _ _ gu0))
        rw [← e, nq] at this
        cases this
      have hS := keep (a := q) (xs := (todo row order).map V.int) (H7 := _) (by rw [← et]; exact .inl (.inl hq)) nqf nqu
      have L := loop q _ (ep.trans eq) hS
      unfold bodyLW at L
      rw [c] at L
      exact L
    | false =>
      walk_at "sx"
      refine ⟨⟨_, .inl (.inl hO6)⟩, ?_⟩
      have et : todo row order = order := by
        unfold todo
        rw [if_neg (by rw [c]; decide)]
      have L := loop ol H6 (Ex.refl _) (by rw [et]; exact keep (.inl (.inl hO6)) olf olu)
      unfold bodyLW at L
      rw [c] at L
      exact L
end
section
variable {P : Program} {w : World} {K : PySem.W.Frag} {mg : Str → Option Value} {base : Heap}
def spNthS (C Ce Cn : Addr) (K : PySem.W.Frag) : Sp := fun vs H Q E => ∃ v iv, vs = [v, iv] ∧ (∀ H', Ex H H' → Kd K H' iv) ∧ ((∃ (x : Addr) (row : List Int), v = .ref x ∧ EffAt C H x (firstV row) (exs row) ∧ Pg 40 row ∧ (inR 0 ((fac (frL row).length : Nat) - 1) iv = true → ∀ l found H', H l = none → Ex H H' → H' l = some (.lst ((found : List Int).map V.int)) → Short row found → Q (.ref l) H') ∧ (inR 0 ((fac (frL row).length : Nat) - 1) iv = false → ∀ H', Ex H H' → E (.ref Cn) none H')) ∨ (Odd K C H v ∧ E (.ref Ce) none H))
theorem F2.trans_ex {u f : Addr} {H H1 H2 : Hp} (g : F2 u f H H1) (e : Ex H1 H2) : F2 u f H H2 := fun b o n1 n2 h => e _ _ (g b o n1 n2 h)
theorem erase_map (f : Int → V) : ∀ (l : List Int) (k : Nat), (l.map f).eraseIdx k = (l.eraseIdx k).map f
  | [], _ => rfl
  | _ :: _, 0 => rfl
  | a :: l, k + 1 => by
    show f a :: (l.map f).eraseIdx k = f a :: (l.eraseIdx k).map f
    rw [erase_map f l k]
theorem erase_perm : ∀ {l : List Int} {k : Nat} {y : Int}, l[k]? = some y → (y :: l.eraseIdx k).Perm l
  | [], _, _, h => by cases h
  | a :: l, 0, y, h => by
    have : a = y := by simpa using h
    subst this
    exact List.Perm.refl _
  | a :: l, k + 1, y, h => by
    have ih := erase_perm (l := l) (k := k) (y := y) (by simpa using h)
    exact (List.Perm.swap a y _).trans (ih.cons a)
theorem popAtL {H : Hp} {Q : VK} {q : Addr} {L : List Int} {r : Int} (h : H q = some (.lst (L.map V.int))) (r0 : 0 ≤ r) (r1 : r < L.length) (hl : L.length ≤ 100000) (k : ∀ y, L[r.toNat]? = some y → Q (.int y) (upd H q (.lst ((L.eraseIdx r.toNat).map V.int)))) : rPopAt (.ref q) [.int r] H Q := by
  have hr : L[r.toNat]? = some L[r.toNat] := List.getElem?_eq_getElem (by omega)
  have kk := k _ hr
  rw [← erase_map] at kk
  refine ⟨q, _, r, r.toNat, .int L[r.toNat], rfl, rfl, h, by omega, by omega, ?_, at_ints hr, kk⟩
  have h0 : ¬ r < 0 := by omega
  simp only [seqIndex?, h0, if_false, List.length_map]
  rw [if_pos]
  simp
  omega
theorem ok_nth_shortest (T : Txt K mg) : FnOk P w K mg base (L2.CX P w) 5 T.f_nth_shortest T.fd_nth_shortest ["effect", "index"] (spNthS T.C_Effect T.C_InvalidEffectError T.C_InvalidNumberError K) := by
  refine T.F_nth_shortest.okX sc_nth_shortest (fun vs H Q E h => ?_) (fun cdv A outer s H vs Q E hr h => ?_)
  · obtain ⟨v, iv, rfl, _⟩ := h
    rfl
  · obtain ⟨v, iv, rfl, kd, h⟩ := h
    apply Exists.intro
    apply And.intro
    · apply pss_cons
      · exact (ps_expr (pe_callS (ok_check_effect T) (hr.mono (by decide)) (by rfl) T.m_check_effect T.F_check_effect.kp T.b_check_effect (fun σ => passAt (takes_of rfl rfl rfl rfl) σ) (pa_cons (pv 0) pa_nil)))
      apply pss_cons
      · exact (ps_expr (pe_callS (ok_check_number T) (hr.mono (by decide)) (by rfl) T.m_check_number T.F_check_number.kp T.b_check_number (fun σ => passAt (takes_of rfl rfl rfl rfl) σ) (pa_cons (pv 1) (pa_cons pe_int (pa_cons (pe_op op_sub (pe_call (ok_number_of_lists T) (hr.mono (by decide)) (by rfl) T.m_number_of_lists T.F_number_of_lists.kp T.b_number_of_lists .nil pass0 (pa_cons (pv 0) pa_nil)) pe_int) pa_nil)))))
      apply pss_cons
      · exact (ps_par3 (i := 2) (j := 3) (l := 4) (by rfl) sc_nth_shortest.nd rfl rfl rfl (by decide) (by decide) (by decide) rfl rfl rfl (pa_cons (pe_call (ok_free_leaves T) (hr.mono (by decide)) (by rfl) T.m_free_leaves T.F_free_leaves.kp T.b_free_leaves .nil pass0 (pa_cons (pv 0) pa_nil)) (pa_cons (pe_lst pa_nil) (pa_cons (pv 1) pa_nil))) (by rfl))
      apply pss_cons
      · apply ps_while (passes_of rfl)
        · exact (pt_cmpR (k_neD (K := K) rfl hr.units) (pv 2) (pe_lst pa_nil) (by rfl))
        · apply pss_cons
          · exact (ps_asg (pe_callB call_dmX (by rfl) T.n_divmod (by decide +kernel) (pa_cons (pv 4) (pa_cons (pe_call (ok_factorial T) (hr.mono (by decide)) (by rfl) T.m_factorial T.F_factorial.kp T.b_factorial .nil pass0 (pa_cons (pe_op op_sub (pe_callB (k_len (K := K) rfl) (by rfl) T.n_len PySem.boot_len (pa_cons (pv 2) pa_nil)) pe_int) pa_nil)) pa_nil))) (k_tup (K := K) (n := 2) rfl rfl (pgs_cons (pg_name (i := 5) sc_nth_shortest.nd rfl (.inl rfl)) (pgs_cons (pg_name (i := 4) sc_nth_shortest.nd rfl (.inl rfl)) pgs_nil))))
          apply pss_one
          exact (ps_expr (k_bm (K := K) rfl (pe_bm PySem.F.plainAttrs_list PySem.F.slot_list_append PySem.F.type_list_append mt_append (pv 3) (pa_cons (k_bm (K := K) rfl (pe_bm PySem.F.plainAttrs_list PySem.F.slot_list_pop PySem.F.type_list_pop mt_popAt (pv 2) (pa_cons (pv 5) pa_nil))) pa_nil))))
      apply pss_one
      exact (ps_ret (pe_call (ok_list_with T) (hr.mono (by decide)) (by rfl) T.m_list_with T.F_list_with.kp T.b_list_with .nil pass0 (pa_cons (pv 0) (pa_cons (pv 3) pa_nil))))
    walk_at "sx"
    refine ⟨v, rfl, ?_⟩
    rcases h with ⟨x, row, rfl, hx, hp, k1, k2⟩ | ⟨ho, k⟩
    · refine .inl ⟨x, _, _, rfl, hx, ?_⟩
      have h40 := frl_le row
      refine ⟨x, row, rfl, hx, hp, fun H1 e1 => ?_⟩
      walk_at "sx"
      refine ⟨iv, _, _, rfl, kd _ e1, fun c => ?_, fun c => k2 c _ e1⟩
      obtain ⟨n, rfl, n0, n1⟩ := inR_int c
      obtain ⟨n, rfl⟩ : ∃ q : Nat, n = (q : Int) := ⟨n.toNat, by omega⟩
      refine ⟨x, row, rfl, hx.ex e1, hp, fun lf H2 nl e2 hl => ?_⟩
      refine ⟨by decide, fun oo no => ⟨_, _, _, ⟨rfl, rfl, rfl⟩, ?_⟩⟩
      have E2 := e1.trans e2
      have nlo : lf ≠ oo := fun e => by rw [← e, hl] at no; cases no
      refine ⟨fun m σ' H' => ∃ (L O : List Int) (r : Nat) (l5 : Option V), m = L.length ∧ σ' = [some (.ref x), some (.int n), some (.ref lf), some (.ref oo), some (.int r), l5] ∧ F2 lf oo H2 H' ∧ H' lf = some (.lst (L.map V.int)) ∧ H' oo = some (.lst (O.map V.int)) ∧ (O ++ L).Perm (frL row) ∧ r < fac L.length, ⟨_, frL row, [], n, none, rfl, rfl, fun b o n1 n2 h => by rw [upd_ne n2]; exact h, by rw [upd_ne nlo]; exact hl, upd_same, List.Perm.refl _, by omega⟩, fun m σ' H' hW => ?_⟩
      obtain ⟨L, O, r, l5, rfl, rfl, g, hL, hO, hperm, hr⟩ := hW
      have hlen := hperm.length_eq
      rw [List.length_append] at hlen
      walk_at "sx"
      refine ⟨sz_ok (by omega), fun z nz1 => ?_⟩
      have ez := Ex.new nz1 (o := .lst [])
      have nzl : z ≠ lf := fun e => by rw [e, hL] at nz1; cases nz1
      have nzo : z ≠ oo := fun e => by rw [e, hO] at nz1; cases nz1
      refine neInts (ns := L) (ms := []) (.inl (.inl (ez _ _ hL))) (.inl (.inl upd_same)) ?_
      walk_at "sx"
      by_cases c0 : L = []
      · rw [if_neg (by simpa using c0)]
        subst c0
        rw [List.append_nil] at hperm
        have hnl : H lf = none := fresh_back e1 nl
        have hno : H oo = none := fresh_back E2 no
        have E3 : Ex H (upd H' z (.lst [])) := (g.ex E2 hnl hno).trans ez
        walk_at "sx"
        exact ⟨x, oo, row, O, rfl, hx.ex E3, hp, ez _ _ hO, hperm, fun l found H3 nl3 e3 hl3 sh => k1 c l found H3 (fresh_back E3 nl3) (E3.trans e3) hl3 sh⟩
      · rw [if_pos (by simpa using c0)]
        refine ⟨fun σ' H' => ∃ (L2 O : List Int) (r : Nat) (l5 : Option V), L2.length < L.length ∧ σ' = [some (.ref x), some (.int n), some (.ref lf), some (.ref oo), some (.int r), l5] ∧ F2 lf oo H2 H' ∧ H' lf = some (.lst (L2.map V.int)) ∧ H' oo = some (.lst (O.map V.int)) ∧ (O ++ L2).Perm (frL row) ∧ r < fac L2.length, fun σ2 H2 hN => ?_, ?_⟩
        · obtain ⟨L2, O2, r2, l6, lt, rfl, a⟩ := hN
          exact ⟨_, lt, L2, rfl, O2, r2, l6, rfl, a⟩
        · refine lenL (.inl (.inl (ez _ _ hL))) ?_
          walk_at "sx"
          have l0 : L.length ≠ 0 := fun e => c0 (List.length_eq_zero_iff.mp e)
          obtain ⟨q, hq⟩ : ∃ q, L.length = q + 1 := ⟨L.length - 1, by omega⟩
          have hf0 := fac_pos q
          have hr' : r < (q + 1) * fac q := by rw [hq] at hr; exact hr
          have hplace : r / fac q < L.length := by rw [hq]; exact (Nat.div_lt_iff_lt_mul hf0).mpr hr'
          have hrest : r % fac q < fac q := Nat.mod_lt _ hf0
          refine ⟨q, by rw [List.length_map, hq]; congr 2; omega, by omega, ?_⟩
          refine ⟨r, (fac q : Nat), rfl, ?_, fun tt nt => ?_⟩
          · refine wide_div (b := 1000) (by omega) ?_ (by omega) (by omega)
            rw [Int.natAbs_natCast]
            exact lt1000 (fac_lt (by omega))
          have et := Ex.new nt (o := .tup [V.int ((r : Int) / (fac q : Nat)), V.int ((r : Int) % (fac q : Nat))])
          refine g_two upd_same ?_
          walk_at "sx"
          have hLt := et _ _ (ez _ _ hL)
          have hOt := et _ _ (ez _ _ hO)
          have d1 : ((r : Int) / (fac q : Nat)) = ((r / fac q : Nat) : Int) := rfl
          have d2 : ((r : Int) % (fac q : Nat)) = ((r % fac q : Nat) : Int) := rfl
          refine ⟨tyL hOt, tyL hLt, ?_⟩
          refine popAtL hLt (by rw [d1]; exact Int.natCast_nonneg _) (by rw [d1]; exact Int.ofNat_lt.mpr hplace) (by omega) fun y hy => ?_
          have hy' : L[r / fac q]? = some y := hy
          have hlo : oo ≠ lf := nlo.symm
          refine appL (by rw [upd_ne hlo]; exact hOt) (BC.sz_lt (by rw [List.length_map]; omega)) ?_
          have hle : (L.eraseIdx (r / fac q)).length = q := by rw [List.length_eraseIdx_of_lt hplace]; omega
          refine ⟨L.eraseIdx (r / fac q), by rw [hle]; omega, O ++ [y], r % fac q, _, ⟨rfl, rfl⟩, ?_, ?_, ?_, ?_, by rw [hle]; exact hrest⟩
          · exact F2.put2 (F2.put1 (F2.trans_ex g (ez.trans et)))
          · rw [upd_ne nlo, upd_same]
            rfl
          · rw [upd_same, List.map_append]
            rfl
          · refine List.Perm.trans ?_ hperm
            rw [List.append_assoc]
            exact List.Perm.append_left _ (erase_perm hy')
    · exact .inr ⟨ho, k⟩
end
end LW

set_option Elab.async false
set_option linter.all false
set_option maxRecDepth 100000
set_option maxHeartbeats 4000000
namespace LW
open PySem PySem.Spec PyProof.Rows L2 BC Evl TR EF L2.DX
local macro_rules | `(tactic| walk_at "sx") => `(tactic| try simp only [x_callS, x_callF4, x_lc2, x_callG, x_g0, x_gfor, x_ghead, x_gplain, x_gthen, x_gyield, x_listG, x_lockE, x_lockS, x_daug, x_seq, x_next, x_brk, x_cnt, x_nev, x_ret, x_retN, x_drop, x_ifS, x_asg, x_gn, x_gsub, x_par, x_par3, x_aug, x_for, x_lc, x_rng1, x_rng2, x_rng3, x_ilist, x_itup, x_ienum, x_izip, x_izipA, x_istr, x_var, x_c, x_op, x_un, x_test, x_b, x_chain, x_and, x_or, x_not, x_andV, x_orV, x_notV, x_ife, x_nil, x_cons, x_lst, x_tup, x_cb, x_call, x_callK, x_bm, x_bm0, x_tru, x_sl, x_nopart, x_part, x_revL, x_I0, x_I, x_U, x_ip, x_ipC, x_eqI, x_neI, x_eqB, x_neB, x_eqS, x_neS, x_isB, x_isNB, x_lrg, x_gall, x_lenSet, x_sortSet, x_rg1, x_rg2, x_dnewK, x_dnewT, x_dget, x_dget1, x_dget2, x_din, x_dnotin, x_dput, x_ikeys, x_fld, x_sfld, x_prop, x_meth, x_make, x_dc, x_callO, x_callOK,
  L2.start, List.map_cons, List.map_nil, List.length_cons, List.length_nil, Nat.reduceAdd, Nat.reduceSub, Nat.sub_self, Nat.zero_add, List.replicate, List.replicate_succ, List.replicate_zero, List.append_nil, List.cons_append, List.nil_append, List.set_cons_zero, List.set_cons_succ, List.getElem?_cons_zero, List.getElem?_cons_succ, Option.some.injEq, V.int.injEq, V.bl.injEq, V.ref.injEq, V.str.injEq, List.cons.injEq, and_true, true_and, exists_eq_left', exists_eq_left, exists_and_left, exists_eq, if_true, if_false, ite_true, ite_false, Bool.true_eq_false, Bool.false_eq_true, reduceIte, reduceCtorEq, Bool.not_true, Bool.not_false, decide_true, decide_false, decide_eq_true_eq, Bool.and_true, Bool.true_and, Bool.and_self, Bool.and_false, Bool.false_and, Bool.or_self, Bool.or_false, Bool.false_or, Bool.or_true, Bool.true_or, eq_self])
section
variable {P : Program} {w : World} {K : PySem.W.Frag} {mg : Str → Option Value} {base : Heap}
def spSame (K : PySem.W.Frag) : Sp := fun vs H Q _ => ∃ (a b : Addr) (r1 r2 : List Int), vs = [.ref a, .ref b] ∧ SqL K H a (r1.map V.int) ∧ SqL K H b (r2.map V.int) ∧ r1.length ≤ 300 ∧ r2.length ≤ 300 ∧ Pg 40 r1 ∧ Pg 40 r2 ∧ ∀ H', Ex H H' → Q (.bl (decide (firstV r1 = firstV r2 ∧ exs r1 = exs r2))) H'
theorem eqEff {T : Txt K mg} {H : Hp} {Q : VK} {x z : Addr} {u u2 : V} {row row2 : List Int} (hx : EffAt T.C_Effect H x u (exs row)) (hp : Pg 40 row) (bg : Begin row u) (hz : EffAt T.C_Effect H z u2 (exs row2)) (hp2 : Pg 40 row2) (bg2 : Begin row2 u2) (q : Q (.bl (decide (u = u2 ∧ exs row = exs row2))) H) : rEqO K T.C_Effect (spEqE T.C_Effect K) E0 (.ref x) (.ref z) H Q := by
  obtain ⟨dx, t, d, ts0, x1, y1⟩ := id hx
  obtain ⟨dx2, t2, d2, ts2, z1, w1⟩ := id hz
  exact ⟨x, dx, _, .ref T.C_Effect, rfl, x1, T.x_Effect.ty z1, ClsO.self, x, .ref z, u, row, rfl, hx, hp, bg, .inr ⟨z, u2, row2, rfl, hz, hp2, bg2, _, rfl, q⟩⟩
theorem ckV {H : Hp} {a : Addr} {ns : List Int} {Cv : Addr} {Q : VK} {E : XK} (hA : SqL K H a (ns.map V.int)) (hl : ns.length ≤ 300) (hp : Pg 40 ns) (q : ∀ H', Ex H H' → Q .non H') : spCkVis K Cv [.ref a] H Q E :=
  ⟨.ref a, _, rfl, .lst hA (de_ints ns), fun _ H1 e1 => q H1 e1, fun c' => by rw [vis_ints hl hp] at c'; cases c'⟩
theorem ok_same_effect (T : Txt K mg) : FnOk P w K mg base CX0 9 T.f_same_effect T.fd_same_effect ["one", "two"] (spSame K) := by
  refine T.F_same_effect.ok sc_same_effect (fun vs H Q E h => ?_) (fun cdv A outer s H vs Q E hr h => ?_)
  · obtain ⟨a, b, r1, r2, rfl, _⟩ := h
    rfl
  · obtain ⟨a, b, r1, r2, rfl, hA, hB, l1, l2, p1, p2, k⟩ := h
    apply Exists.intro
    apply And.intro
    · apply pss_cons
      · exact (ps_expr (pe_callS (ok_check_visits T) (hr.mono (by decide)) (by rfl) T.m_check_visits T.F_check_visits.kp T.b_check_visits (fun σ => passAt takes0 σ) (pa_cons (pv 0) pa_nil)))
      apply pss_cons
      · exact (ps_expr (pe_callS (ok_check_visits T) (hr.mono (by decide)) (by rfl) T.m_check_visits T.F_check_visits.kp T.b_check_visits (fun σ => passAt takes0 σ) (pa_cons (pv 1) pa_nil)))
      apply pss_one
      exact (ps_ret (pe_cmpR (k_eqO (K := K) rfl T.h_Effect___eq T.i_Effect___eq (ok_Effect___eq T) (hr.mono (by decide)) hr.units T.b_Effect___eq pass0) (pe_call (ok_effect_in T) (hr.mono (by decide)) (by rfl) T.m_effect_in T.F_effect_in.kp T.b_effect_in .nil pass0 (pa_cons (pv 0) pa_nil)) (pe_call (ok_effect_in T) (hr.mono (by decide)) (by rfl) T.m_effect_in T.F_effect_in.kp T.b_effect_in .nil pass0 (pa_cons (pv 1) pa_nil)) (by rfl)))
    walk_at "sx"
    refine ckV hA l1 p1 fun H1 e1 => ?_
    walk_at "sx"
    refine ckV (ex_l e1 hB) l2 p2 fun H2 e2 => ?_
    have e12 := e1.trans e2
    walk_at "sx"
    refine ⟨a, r1, rfl, ex_l e12 hA, by omega, p1, fun x H3 nx e3 hx => ?_⟩
    refine ⟨b, r2, rfl, ex_l (e12.trans e3) hB, by omega, p2, fun y H4 ny e4 hy => ?_⟩
    refine eqEff (hx.ex e4) p1 (begin_first r1) hy p2 (begin_first r2) ?_
    exact k _ ((e12.trans e3).trans e4)
/-- the visits behind which the trails are these -/
def TrsR (H : Hp) (rs : List Addr) (ns : List Int) : Prop := ∀ (i : Nat) (r : Addr), rs[i]? = some r → H r = some (.lst ((trl (ns.take (i + 1))).map V.int))
def spVisOf (K : PySem.W.Frag) : Sp := fun vs H Q _ => ∃ (a : Addr) (rs : List Addr) (ns : List Int), vs = [.ref a] ∧ H a = some (.lst (rs.map V.ref)) ∧ rs.length = ns.length ∧ ns.length ≤ 300 ∧ Pg 40 ns ∧ TrsR H rs ns ∧ ∀ f H', H f = none → Ex H H' → H' f = some (.lst (ns.map V.int)) → Q (.ref f) H'
theorem vis_lastI (t : List Int) (p : Int) : (vis t p).getLast? = some p := by
  unfold vis
  by_cases m : p ∈ t
  · rw [if_pos m]
    have hi := List.idxOf_lt_length_of_mem m
    rw [List.getLast?_take, if_neg (by omega), Nat.add_sub_cancel, List.getElem?_eq_getElem hi, List.getElem_idxOf hi]
    rfl
  · rw [if_neg m]; exact List.getLast?_concat
def JVf (H1 : Hp) (a f : Addr) (rs : List Addr) (ns : List Int) (i : Nat) (σ' : L2.St) (H' : Hp) : Prop := ∃ l1 b, σ' = [some (.ref a), l1, some (.ref f), some (.ref b)] ∧ Ex H1 H' ∧ f ≠ b ∧ H' f = some (.lst ((ns.take i).map V.int)) ∧ H' b = some (.lst ((trl (ns.take i)).map V.int))
theorem ok_visits_of (T : Txt K mg) : FnOk P w K mg base CX0 5 T.f_visits_of T.fd_visits_of ["trails"] (spVisOf K) := by
  refine T.F_visits_of.ok sc_visits_of (fun vs H Q E h => ?_) (fun cdv A outer s H vs Q E hr h => ?_)
  · obtain ⟨a, rs, ns, rfl, _⟩ := h
    rfl
  · obtain ⟨a, rs, ns, rfl, hA, hrl, hl, hp, hts, k⟩ := h
    apply Exists.intro
    apply And.intro
    · apply pss_cons
      · apply ps_if
        · exact (PW.pt (pw_or (pt_not (pt_val (pe_callB (k_isi (K := K) rfl) (by rfl) T.n_isinstance (by decide +kernel) (pa_cons (pv 0) (pa_cons (pe_bltn (v := .ty "list") (by rfl) T.n_list (by decide +kernel) rfl) pa_nil))))) (pw_or1 (pt_cmpR op_gt (pe_callB (k_len (K := K) rfl) (by rfl) T.n_len PySem.boot_len (pa_cons (pv 0) pa_nil)) (pe_glob (v := .int 300) rfl T.c_MOST_TRAILS ⟨_, rfl⟩) (by rfl)))))
        · apply pss_one
          exact ps_never
        · exact pss_nil
      apply pss_cons
      · apply ps_for PassesOwn.never rfl
        · exact (k_pi_list (K := K) rfl (pv 0))
        · exact (pg_name (i := 1) sc_visits_of.nd rfl (.inl rfl))
        · apply pss_one
          exact (ps_expr (pe_call (ok_check_trail T) (hr.mono (by decide)) (by rfl) T.m_check_trail T.F_check_trail.kp T.b_check_trail .nil pass0 (pa_cons (pv 1) pa_nil)))
      apply pss_cons
      · exact (ps_par (i := 2) (j := 3) (by rfl) sc_visits_of.nd rfl rfl (by decide) rfl rfl (pa_cons (pe_lst pa_nil) (pa_cons (pe_lst pa_nil) pa_nil)) (by rfl))
      apply pss_cons
      · apply ps_for PassesOwn.never rfl
        · exact (k_pi_list (K := K) rfl (pv 0))
        · exact (pg_name (i := 1) sc_visits_of.nd rfl (.inl rfl))
        · apply pss_cons
          · apply ps_if
            · exact (PW.pt (pw_or (pt_cmpR (k_eqD (K := K) rfl hr.units) (pv 1) (pe_lst pa_nil) (by rfl)) (pw_or1 (pt_cmpR (k_neD (K := K) rfl hr.units) (pe_call (ok_visited T) (hr.mono (by decide)) (by rfl) T.m_visited T.F_visited.kp T.b_visited .nil pass0 (pa_cons (pv 3) (pa_cons (pe_ix (k_ix_list (K := K) rfl) (pv 1) (pe_un un_neg pe_int) (fun _ _ => rfl)) pa_nil))) (pv 1) (by rfl)))))
            · apply pss_one
              exact (ps_ret pe_non)
            · exact pss_nil
          apply pss_cons
          · exact (ps_expr (k_bm (K := K) rfl (pe_bm PySem.F.plainAttrs_list PySem.F.slot_list_append PySem.F.type_list_append mt_append (pv 2) (pa_cons (pe_ix (k_ix_list (K := K) rfl) (pv 1) (pe_un un_neg pe_int) (fun _ _ => rfl)) pa_nil))))
          apply pss_one
          exact (ps_set (i := 3) sc_visits_of.nd rfl (.inl rfl) (pv 1))
      apply pss_one
      exact (ps_ret (pv 2))
    walk_at "sx"
    refine isi_x (b := true) (tyx_l (.inl (.inl hA))) (by decide +kernel) ?_
    walk_at "sx"
    refine lenL (.inl (.inl hA)) ?_
    rw [List.length_map]
    walk_at "sx"
    rw [if_neg (by omega)]
    refine ⟨⟨_, .inl (.inl hA)⟩, ?_⟩
    refine lg_list (xs := rs.map V.ref) (fun i σ' H' => ∃ l1, σ' = [some (.ref a), l1, none, none] ∧ Ex H H') ⟨none, rfl, Ex.refl _⟩ (fun i σ' H' _ hP => by obtain ⟨_, _, e⟩ := hP; exact .inl (.inl (e _ _ hA))) (fun i v σ' H' hv hP => ?_) (fun σ' H' hP => ?_)
    · obtain ⟨l1, rfl, e⟩ := hP
      obtain ⟨r, hr, rfl⟩ := refs_at hv
      walk_at "sx"
      exact ⟨r, _, rfl, .inl (.inl (e _ _ (hts i r hr))), trl_nodup (hp.take _), trl_pg (hp.take _), fun H2 e2 => e.trans e2⟩
    · obtain ⟨l1, rfl, e⟩ := hP
      walk_at "sx"
      refine ⟨by decide, fun f nf => ⟨by decide, fun b nb => ?_⟩⟩
      have ef := Ex.new nf (o := .lst [])
      have eb := Ex.new nb (o := .lst [])
      have e2 := (e.trans ef).trans eb
      have nfb : f ≠ b := fun z => by rw [← z, upd_same] at nb; cases nb
      have hf : (upd (upd H' f (.lst [])) b (.lst [])) f = some (.lst []) := eb _ _ upd_same
      have hb : (upd (upd H' f (.lst [])) b (.lst [])) b = some (.lst []) := upd_same
      have nfH : H f = none := fresh_back e nf
      generalize (upd (upd H' f (.lst [])) b (.lst [])) = H3 at e2 hf hb ⊢
      refine ⟨_, _, ⟨rfl, rfl⟩, ⟨_, .inl (.inl (e2 _ _ hA))⟩, ?_⟩
      have hts3 : TrsR H3 rs ns := fun i r hr => e2 _ _ (hts i r hr)
      refine lg_list (xs := rs.map V.ref) (fun i σ' H' => ∃ l1 b, σ' = [some (.ref a), l1, some (.ref f), some (.ref b)] ∧ Fx f H3 H' ∧ f ≠ b ∧ H' f = some (.lst ((ns.take i).map V.int)) ∧ H' b = some (.lst ((trl (ns.take i)).map V.int))) ⟨_, b, rfl, Fx.refl _ _, nfb, hf, hb⟩ (fun i σ' H' _ hP => by obtain ⟨_, _, _, g, _⟩ := hP; exact .inl (.inl (g _ _ (ne_of_none (hA) nfH) (e2 _ _ hA)))) (fun i v σ' H' hv hP => ?_) (fun σ' H' hP => ?_)
      · obtain ⟨l1, b, rfl, g, nfb, hf, hb⟩ := hP
        obtain ⟨r, hr, rfl⟩ := refs_at hv
        have hi : i < ns.length := by rw [← hrl]; exact (List.getElem?_eq_some_iff.mp hr).1
        have hp1 : ns[i]? = some ns[i] := List.getElem?_eq_getElem hi
        have hr0 : H r ≠ none := by rw [hts i r hr]; exact nofun
        have nrf : r ≠ f := fun z => hr0 (by rw [z]; exact nfH)
        have hr1 := g _ _ nrf (hts3 i r hr)
        have hlast := vis_lastI (trl (ns.take i)) ns[i]
        rw [trl_snoc hp1] at hr1
        have tl := trl_len (n := 40) (hp.take i)
        have tl2 := vis_le (trl (ns.take i)) ns[i]
        have ne : vis (trl (ns.take i)) ns[i] ≠ [] := fun z => by rw [z] at hlast; cases hlast
        have hat : atI ((vis (trl (ns.take i)) ns[i]).map V.int) (-1) = some (.int ns[i]) := by
          refine BC.atI_last ?_
          rw [List.getLast?_eq_getElem?] at hlast
          rw [List.length_map, List.getElem?_map, hlast]
          rfl
        walk_at "sx"
        refine ⟨by decide, fun e0 ne0 => ?_⟩
        have ee := Ex.new ne0 (o := .lst [])
        refine eqInts (ms := []) (.inl (.inl (ee _ _ hr1))) (.inl (.inl upd_same)) ?_
        walk_at "sx"
        rw [if_neg ne]
        refine ixL (.inl (.inl (ee _ _ hr1))) hat ?_
        refine ⟨b, _, _, rfl, ee _ _ hb, by omega, fun q H5 nq e5 hq => ?_⟩
        refine neInts (.inl (.inl hq)) (.inl (.inl (e5 _ _ (ee _ _ hr1)))) ?_
        rw [decide_eq_true rfl]
        walk_at "sx"
        have e6 := ee.trans e5
        refine ⟨tyL (e6 _ _ hf), ?_⟩
        refine ixL (.inl (.inl (e6 _ _ hr1))) hat ?_
        refine appL (e6 _ _ hf) (BC.sz_lt (by rw [List.length_map, List.length_take]; omega)) ?_
        have hrf : r ≠ f := nrf
        refine ⟨_, r, ⟨rfl, rfl⟩, (g.trans (Fx.of e6)).trans Fx.put, nrf.symm, ?_, ?_⟩
        · rw [upd_same, List.take_add_one, hp1, Option.toList_some, List.map_append]
          rfl
        · rw [upd_ne nrf, e6 _ _ hr1, trl_snoc hp1]
      · obtain ⟨l1, b, rfl, g, nfb, hf, hb⟩ := hP
        walk_at "sx"
        rw [List.length_map, hrl, List.take_of_length_le (Nat.le_refl _)] at hf
        refine k f H' nfH (fun c o h => g c o (ne_of_none h nfH) (e2 c o h)) hf
end
end LW

set_option Elab.async false
set_option linter.all false
set_option maxRecDepth 100000
set_option maxHeartbeats 4000000
namespace LW
open PySem PySem.Spec PyProof.Rows L2 BC Evl TR EF L2.DX
local macro_rules | `(tactic| walk_at "sx") => `(tactic| try simp only [x_callS, x_callF4, x_lc2, x_callG, x_g0, x_gfor, x_ghead, x_gplain, x_gthen, x_gyield, x_listG, x_lockE, x_lockS, x_daug, x_seq, x_next, x_brk, x_cnt, x_nev, x_ret, x_retN, x_drop, x_ifS, x_asg, x_gn, x_gsub, x_par, x_par3, x_aug, x_for, x_lc, x_rng1, x_rng2, x_rng3, x_ilist, x_itup, x_ienum, x_izip, x_izipA, x_istr, x_var, x_c, x_op, x_un, x_test, x_b, x_chain, x_and, x_or, x_not, x_andV, x_orV, x_notV, x_ife, x_nil, x_cons, x_lst, x_tup, x_cb, x_call, x_callK, x_bm, x_bm0, x_tru, x_sl, x_nopart, x_part, x_revL, x_I0, x_I, x_U, x_ip, x_ipC, x_eqI, x_neI, x_eqB, x_neB, x_eqS, x_neS, x_isB, x_isNB, x_lrg, x_gall, x_lenSet, x_sortSet, x_rg1, x_rg2, x_dnewK, x_dnewT, x_dget, x_dget1, x_dget2, x_din, x_dnotin, x_dput, x_ikeys, x_fld, x_sfld, x_prop, x_meth, x_make, x_dc, x_callO, x_callOK,
  L2.start, List.map_cons, List.map_nil, List.length_cons, List.length_nil, Nat.reduceAdd, Nat.reduceSub, Nat.sub_self, Nat.zero_add, List.replicate, List.replicate_succ, List.replicate_zero, List.append_nil, List.cons_append, List.nil_append, List.set_cons_zero, List.set_cons_succ, List.getElem?_cons_zero, List.getElem?_cons_succ, Option.some.injEq, V.int.injEq, V.bl.injEq, V.ref.injEq, V.str.injEq, List.cons.injEq, and_true, true_and, exists_eq_left', exists_eq_left, exists_and_left, exists_eq, if_true, if_false, ite_true, ite_false, Bool.true_eq_false, Bool.false_eq_true, reduceIte, reduceCtorEq, Bool.not_true, Bool.not_false, decide_true, decide_false, decide_eq_true_eq, Bool.and_true, Bool.true_and, Bool.and_self, Bool.and_false, Bool.false_and, Bool.or_self, Bool.or_false, Bool.false_or, Bool.or_true, Bool.true_or, eq_self])
section
variable {P : Program} {w : World} {K : PySem.W.Frag} {mg : Str → Option Value} {base : Heap}
theorem gd_app {α : Type} {L M : List α} {i : Nat} {d : α} (h : i < L.length) : (L ++ M).getD i d = L.getD i d := by
  rw [List.getD_eq_getElem?_getD, List.getD_eq_getElem?_getD, List.getElem?_append_left h]
theorem gd_appR {α : Type} {L M : List α} {i : Nat} {d : α} (h : L.length ≤ i) : (L ++ M).getD i d = M.getD (i - L.length) d := by
  rw [List.getD_eq_getElem?_getD, List.getD_eq_getElem?_getD, List.getElem?_append_right h]
/-- a list of lists of numbers -/
def LLs (H : Hp) (D : Addr) (L : List (List Int)) : Prop := ∃ rs : List Addr, H D = some (.lst (rs.map V.ref)) ∧ rs.length = L.length ∧ ∀ (i : Nat) (r : Addr), rs[i]? = some r → r ≠ D ∧ H r = some (.lst ((L.getD i []).map V.int))
theorem LLs.ex {H H' : Hp} {D : Addr} {L : List (List Int)} (h : LLs H D L) (e : Ex H H') : LLs H' D L := by
  obtain ⟨rs, a, b, c⟩ := h
  exact ⟨rs, e _ _ a, b, fun i r hr => ⟨(c i r hr).1, e _ _ (c i r hr).2⟩⟩
theorem LLs.at {H : Hp} {D : Addr} {L : List (List Int)} {l : List Int} {i : Nat} {v : V} {xs : List V} (h : LLs H D L) (hx : H D = some (.lst xs)) (hv : xs[i]? = some v) (hl : L[i]? = some l) : ∃ r, v = .ref r ∧ H r = some (.lst (l.map V.int)) := by
  obtain ⟨rs, a, b, c⟩ := h
  rw [hx] at a
  cases a
  obtain ⟨r, hr, rfl⟩ := refs_at hv
  refine ⟨r, rfl, ?_⟩
  have := (c i r hr).2
  rw [List.getD_eq_getElem?_getD, hl] at this
  exact this
theorem LLs.snoc {H : Hp} {D q : Addr} {L : List (List Int)} {l : List Int} (x : LLs H D L) (nq : q ≠ D) (hq : H q = some (.lst (l.map V.int))) : ∃ xs, H D = some (.lst xs) ∧ xs.length = L.length ∧ LLs (upd H D (.lst (xs ++ [V.ref q]))) D (L ++ [l]) := by
  obtain ⟨rs, a, h, c⟩ := x
  refine ⟨rs.map V.ref, a, by rw [List.length_map, h], rs ++ [q], by rw [upd_same, List.map_append]; rfl, by rw [List.length_append, List.length_append, h]; rfl, fun i r hr => ?_⟩
  by_cases hi : i < rs.length
  · rw [List.getElem?_append_left hi] at hr
    have := c i r hr
    refine ⟨this.1, ?_⟩
    rw [upd_ne this.1, this.2, gd_app (by omega)]
  · rw [List.getElem?_append_right (by omega)] at hr
    have h0 : i - rs.length = 0 := by
      have := (List.getElem?_eq_some_iff.mp hr).1
      rw [List.length_singleton] at this
      omega
    rw [h0] at hr
    have e : q = r := by simpa using hr
    subst e
    refine ⟨nq, ?_⟩
    rw [upd_ne nq, hq, gd_appR (by omega), show i - L.length = 0 by omega]
    rfl
theorem LLs.cat {H : Hp} {D E u : Addr} {L M : List (List Int)} (x : LLs H D L) (y : LLs H E M) (xs ys : List V) (hx : H D = some (.lst xs)) (hy : H E = some (.lst ys)) (nu : H u = none) : LLs (upd H u (.lst (xs ++ ys))) u (L ++ M) := by
  obtain ⟨rs, a, b, c⟩ := x
  obtain ⟨ts, a', b', c'⟩ := y
  rw [hx] at a; cases a
  rw [hy] at a'; cases a'
  refine ⟨rs ++ ts, by rw [upd_same, List.map_append], by rw [List.length_append, List.length_append, b, b'], fun i r hr => ?_⟩
  have key : H r = some (.lst (((L ++ M).getD i []).map V.int)) := by
    by_cases hi : i < rs.length
    · rw [List.getElem?_append_left hi] at hr
      rw [(c i r hr).2, gd_app (by omega)]
    · rw [List.getElem?_append_right (by omega)] at hr
      rw [(c' _ r hr).2, gd_appR (by omega), b]
  have ne : r ≠ u := fun e => by rw [e, nu] at key; cases key
  exact ⟨ne, by rw [upd_ne ne, key]⟩
theorem LLs.len {H : Hp} {D : Addr} {L : List (List Int)} {xs : List V} (h : LLs H D L) (hx : H D = some (.lst xs)) : xs.length = L.length := by
  obtain ⟨rs, a, b, _⟩ := h
  rw [hx] at a
  cases a
  rw [List.length_map, b]
theorem LLs.nil {H : Hp} {D : Addr} (h : H D = some (.lst [])) : LLs H D [] := ⟨[], h, rfl, fun i r e => by simp at e⟩
def p40 : List Int := (List.range 40).map fun i : Nat => (i : Int)
def trs1 : List (List Int) := (List.range 40).map fun i : Nat => [(i : Int)]
def trs2 : List (List Int) := (List.range 1600).map fun k : Nat => [((k / 40 : Nat) : Int), ((k % 40 : Nat) : Int)]
def trsA : List (List Int) := ([[]] ++ trs1) ++ trs2
theorem trs1_at {i : Nat} (h : i < 40) : trs1.take (i + 1) = trs1.take i ++ [[(i : Int)]] := by
  have e : trs1[i]? = some [(i : Int)] := by unfold trs1; rw [List.getElem?_map, List.getElem?_range h]; rfl
  rw [List.take_add_one, e]
  rfl
theorem trs2_at {i j : Nat} (h : i < 40) (hj : j < 40) : trs2.take (40 * i + (j + 1)) = trs2.take (40 * i + j) ++ [[(i : Int), (j : Int)]] := by
  have e : trs2[40 * i + j]? = some [(i : Int), (j : Int)] := by
    unfold trs2
    rw [List.getElem?_map, List.getElem?_range (by omega)]
    have h1 : (40 * i + j) / 40 = i := by omega
    have h2 : (40 * i + j) % 40 = j := by omega
    show some [(((40 * i + j) / 40 : Nat) : Int), (((40 * i + j) % 40 : Nat) : Int)] = _
    rw [h1, h2]
  rw [← Nat.add_assoc, List.take_add_one, e]
  rfl
theorem trs1_len : trs1.length = 40 := by unfold trs1; rw [List.length_map, List.length_range]
theorem trs2_len : trs2.length = 1600 := by unfold trs2; rw [List.length_map, List.length_range]
theorem trsA_len : trsA.length = 1641 := by unfold trsA; rw [List.length_append, List.length_append, trs1_len, trs2_len]; rfl
theorem trsA_cases {t : List Int} (h : t ∈ trsA) : Pg 40 t ∧ t.length ≤ 2 ∧ ((t.length < 2 ∨ t.headD 0 ≠ (t.drop 1).headD 0) → t.Nodup) ∧ (t = [] ∨ (∃ p, t = [p]) ∨ ∃ p b, t = [p, b]) := by
  unfold trsA at h
  rcases List.mem_append.mp h with h | h
  · rcases List.mem_append.mp h with h | h
    · rw [List.mem_singleton] at h
      subst h
      exact ⟨pg_nil _, by simp, fun _ => List.nodup_nil, .inl rfl⟩
    · obtain ⟨i, hi, rfl⟩ := List.mem_map.mp h
      have := List.mem_range.mp hi
      exact ⟨fun x hx => by rw [List.mem_singleton.mp hx]; omega, by simp, fun _ => by simp, .inr (.inl ⟨_, rfl⟩)⟩
  · obtain ⟨i, hi, rfl⟩ := List.mem_map.mp h
    have := List.mem_range.mp hi
    refine ⟨fun x hx => ?_, by simp, fun c => ?_, .inr (.inr ⟨_, _, rfl⟩)⟩
    · rcases List.mem_cons.mp hx with e | hx
      · rw [e]; omega
      · rw [List.mem_singleton.mp hx]; omega
    · rcases c with c | c
      · simp at c
      · simpa using c
theorem trsA_nil : [] ∈ trsA := List.mem_append_left _ (List.mem_append_left _ List.mem_cons_self)
theorem trsA_one {p : Int} (h0 : 0 ≤ p) (h1 : p < 40) : [p] ∈ trsA := List.mem_append_left _ (List.mem_append_right _ (List.mem_map.mpr ⟨p.toNat, List.mem_range.mpr (by omega), by rw [Int.toNat_of_nonneg h0]⟩))
theorem trsA_two {p b : Int} (h0 : 0 ≤ p) (h1 : p < 40) (h2 : 0 ≤ b) (h3 : b < 40) : [p, b] ∈ trsA := List.mem_append_right _ (List.mem_map.mpr ⟨40 * p.toNat + b.toNat, List.mem_range.mpr (by omega), by
  have e1 : (40 * p.toNat + b.toNat) / 40 = p.toNat := by omega
  have e2 : (40 * p.toNat + b.toNat) % 40 = b.toNat := by omega
  show [(((40 * p.toNat + b.toNat) / 40 : Nat) : Int), (((40 * p.toNat + b.toNat) % 40 : Nat) : Int)] = _
  rw [e1, e2, Int.toNat_of_nonneg h0, Int.toNat_of_nonneg h2]⟩)
theorem parts_all {r1 r2 : List Int} (p1 : Pg 40 r1) (p2 : Pg 40 r2) (h : ∀ t ∈ trsA, (t.length < 2 ∨ t.headD 0 ≠ (t.drop 1).headD 0) → ef r1 t = ef r2 t) : firstV r1 = firstV r2 ∧ exs r1 = exs r2 := by
  obtain ⟨e1, e2⟩ := parts p1 p2 (h _ trsA_nil (.inl (by simp))) (fun p h0 h1 => h _ (trsA_one h0 h1) (.inl (by simp))) (fun p b h0 h1 h2 h3 ne => h _ (trsA_two h0 h1 h2 h3) (.inr ne))
  refine ⟨?_, exs_congr e2⟩
  cases r1 with
  | nil => cases r2 with
    | nil => rfl
    | cons a s => cases e1
  | cons a s => cases r2 with
    | nil => cases e1
    | cons b u => cases e1; rfl
theorem EffAt.ins {C : Addr} {H : Hp} {x : Addr} {v : V} {qs : List (Int × Int)} (h : EffAt C H x v qs) : ∃ dx fs, H x = some (.ins C dx fs) := by
  obtain ⟨dx, t, d, ts, h1, _⟩ := h
  exact ⟨dx, _, h1⟩
theorem part_body {T : Txt K mg} {H : Hp} {QQ : V → Hp → Prop} {x y r : Addr} {r1 r2 t : List Int} (hx : EffAt T.C_Effect H x (firstV r1) (exs r1)) (hy : EffAt T.C_Effect H y (firstV r2) (exs r2)) (p1 : Pg 40 r1) (p2 : Pg 40 r2) (l1 : r1.length ≤ 300) (l2 : r2.length ≤ 300) (hr : H r = some (.lst (t.map V.int))) (nd : t.Nodup) (pt : Pg 40 t) (q : ∀ H2, Ex H H2 → QQ (.bl (!decide (ef r1 t = ef r2 t))) H2) :
    (∃ dx fs, H x = some (HO.ins T.C_Effect dx fs)) ∧ spCallE T.C_Effect K [V.ref x, V.ref r] H (fun x H1 => (∃ dx fs, H1 y = some (HO.ins T.C_Effect dx fs)) ∧ spCallE T.C_Effect K [V.ref y, V.ref r] H1 (fun y H2 => rNeD K x y H2 QQ) E0) E0 := by
  refine ⟨hx.ins, x, r, r1, t, rfl, hx, p1, l1, hr, nd, pt, fun u1 G1 n1 g1 h1 => ?_⟩
  refine ⟨(hy.ex g1).ins, y, r, r2, t, rfl, hy.ex g1, p2, l2, g1 _ _ hr, nd, pt, fun u2 G2 n2 g2 h2 => ?_⟩
  exact neInts (.inl (.inl (g2 _ _ h1))) (.inl (.inl h2)) (q _ (g1.trans g2))
def spPart (K : PySem.W.Frag) : Sp := fun vs H Q _ => ∃ (a b : Addr) (r1 r2 : List Int), vs = [.ref a, .ref b] ∧ SqL K H a (r1.map V.int) ∧ SqL K H b (r2.map V.int) ∧ r1.length ≤ 300 ∧ r2.length ≤ 300 ∧ Pg 40 r1 ∧ Pg 40 r2 ∧
  ∀ v H', Ex H H' → ((v = .non ∧ firstV r1 = firstV r2 ∧ exs r1 = exs r2) ∨ ∃ l t, v = .ref l ∧ H' l = some (.lst ((t : List Int).map V.int)) ∧ t.Nodup ∧ Pg 40 t ∧ ef r1 t ≠ ef r2 t) → Q v H'
theorem ok_parting_trail (T : Txt K mg) : FnOk P w K mg base CX0 9 T.f_parting_trail T.fd_parting_trail ["one", "two"] (spPart K) := by
  refine T.F_parting_trail.ok sc_parting_trail (fun vs H Q E h => ?_) (fun cdv A outer s H vs Q E hr h => ?_)
  · obtain ⟨a, b, r1, r2, rfl, _⟩ := h
    rfl
  · obtain ⟨a, b, r1, r2, rfl, hA, hB, l1, l2, p1, p2, k⟩ := h
    apply Exists.intro
    apply And.intro
    · apply pss_cons
      · exact (ps_expr (pe_callS (ok_check_visits T) (hr.mono (by decide)) (by rfl) T.m_check_visits T.F_check_visits.kp T.b_check_visits (fun σ => passAt takes0 σ) (pa_cons (pv 0) pa_nil)))
      apply pss_cons
      · exact (ps_expr (pe_callS (ok_check_visits T) (hr.mono (by decide)) (by rfl) T.m_check_visits T.F_check_visits.kp T.b_check_visits (fun σ => passAt takes0 σ) (pa_cons (pv 1) pa_nil)))
      apply pss_cons
      · exact (ps_par (i := 4) (j := 5) (by rfl) sc_parting_trail.nd rfl rfl (by decide) rfl rfl (pa_cons (pe_call (ok_effect_in T) (hr.mono (by decide)) (by rfl) T.m_effect_in T.F_effect_in.kp T.b_effect_in .nil pass0 (pa_cons (pv 0) pa_nil)) (pa_cons (pe_call (ok_effect_in T) (hr.mono (by decide)) (by rfl) T.m_effect_in T.F_effect_in.kp T.b_effect_in .nil pass0 (pa_cons (pv 1) pa_nil)) pa_nil)) (by rfl))
      apply pss_cons
      · apply ps_if
        · exact (pt_cmpR (k_eqO (K := K) rfl T.h_Effect___eq T.i_Effect___eq (ok_Effect___eq T) (hr.mono (by decide)) hr.units T.b_Effect___eq pass0) (pv 4) (pv 5) (by rfl))
        · apply pss_one
          exact (ps_ret pe_non)
        · exact pss_nil
      apply pss_cons
      · exact (ps_set (i := 2) sc_parting_trail.nd rfl (.inr rfl) (pe_listRg rfl (by rfl) T.n_list (prg_1 (by rfl) T.n_range (pe_glob (v := .int 40) rfl T.c_MOST_PAGES ⟨_, rfl⟩))))
      apply pss_cons
      · apply ps_for PassesOwn.never rfl
        · exact (k_pi_list (K := K) rfl (pe_op op_cat (pe_op op_cat (pe_lst (pa_cons (pe_lst pa_nil) pa_nil)) (pe_lc (own := [("page", 6)]) rfl sc_parting_trail.nd (k_pi_list (K := K) rfl (pv 2)) (blkOk_by (own := [("page", 6)]) (N := ["one", "two", "pages", "trail", "effect", "other", "page", "behind"]) (sc := defScope s_parting_trail) (by decide +kernel)) (fun _ _ _ _ _ => by exact (pg_name (i := 6) sc_parting_trail.nd rfl (.inl rfl))) (fun _ _ _ _ _ => by exact pts_nil) (fun _ _ _ _ _ => by exact (pe_lst (pa_cons (pv 6) pa_nil))))) (pe_lc2 (own := [("page", 6), ("behind", 7)]) (vs1 := [7]) rfl sc_parting_trail.nd (k_pi_list (K := K) rfl (pv 2)) (blkOk_by (own := [("page", 6), ("behind", 7)]) (N := ["one", "two", "pages", "trail", "effect", "other", "page", "behind"]) (sc := defScope s_parting_trail) (by decide +kernel)) (by decide) (fun _ _ _ _ _ => by exact (pg_name (i := 6) sc_parting_trail.nd rfl (.inl rfl))) (fun _ _ _ _ _ => by exact pts_nil) (fun _ _ _ _ _ => by exact (k_pi_list (K := K) rfl (pv 2))) (fun _ _ _ _ _ => by exact (pg_name (i := 7) sc_parting_trail.nd rfl (.inl rfl))) (fun _ _ _ _ _ => by exact pts_nil) (fun _ _ _ _ _ => by exact (pe_lst (pa_cons (pv 6) (pa_cons (pv 7) pa_nil)))))))
        · exact (pg_name (i := 3) sc_parting_trail.nd rfl (.inl rfl))
        · apply pss_one
          apply ps_if
          · exact (PW.pt (pw_or (pt_cmpR op_lt (pe_callB (k_len (K := K) rfl) (by rfl) T.n_len PySem.boot_len (pa_cons (pv 3) pa_nil)) pe_int (by rfl)) (pw_or1 (pt_cmpR op_ne (pe_ix (k_ix_list (K := K) rfl) (pv 3) pe_int (fun _ _ => rfl)) (pe_ix (k_ix_list (K := K) rfl) (pv 3) pe_int (fun _ _ => rfl)) (by rfl)))))
          · apply pss_one
            apply ps_if
            · exact (pt_cmpR (k_neD (K := K) rfl hr.units) (pe_callO (pv 4) T.o_Effect___call (ok_Effect___call T) (hr.mono (by decide)) T.b_Effect___call .nil pass0 (pa_cons (pv 3) pa_nil)) (pe_callO (pv 5) T.o_Effect___call (ok_Effect___call T) (hr.mono (by decide)) T.b_Effect___call .nil pass0 (pa_cons (pv 3) pa_nil)) (by rfl))
            · apply pss_one
              exact (ps_ret (pv 3))
            · exact pss_nil
          · exact pss_nil
      apply pss_one
      exact (ps_ret pe_non)
    refine seq_cut (fun σ' H' => σ' = [some (.ref a), some (.ref b), none, none, none, none, none, none] ∧ Ex H H') (fun N hN => ?_) (fun σ1 H1 hC => ?_)
    · walk_at "sx"
      exact ckV hA l1 p1 fun H1 e1 => hN _ _ ⟨rfl, e1⟩
    obtain ⟨rfl, e1⟩ := hC
    refine seq_cut (fun σ' H' => σ' = [some (.ref a), some (.ref b), none, none, none, none, none, none] ∧ Ex H H') (fun N hN => ?_) (fun σ1 H2 hC => ?_)
    · walk_at "sx"
      exact ckV (ex_l e1 hB) l2 p2 fun H2 e2 => hN _ _ ⟨rfl, e1.trans e2⟩
    obtain ⟨rfl, e2⟩ := hC
    refine seq_cut (fun σ' H' => ∃ x y, σ' = [some (.ref a), some (.ref b), none, none, some (.ref x), some (.ref y), none, none] ∧ Ex H H' ∧ EffAt T.C_Effect H' x (firstV r1) (exs r1) ∧ EffAt T.C_Effect H' y (firstV r2) (exs r2)) (fun N hN => ?_) (fun σ1 H3 hC => ?_)
    · walk_at "sx"
      refine ⟨a, r1, rfl, ex_l e2 hA, by omega, p1, fun x H3 nx e3 hx => ?_⟩
      refine ⟨b, r2, rfl, ex_l (e2.trans e3) hB, by omega, p2, fun y H4 ny e4 hy => ?_⟩
      exact ⟨_, _, ⟨rfl, rfl⟩, hN _ _ ⟨x, y, rfl, (e2.trans e3).trans e4, hx.ex e4, hy⟩⟩
    obtain ⟨x, y, rfl, e3, hx, hy⟩ := hC
    walk_at "sx"
    refine eqEff hx p1 (begin_first r1) hy p2 (begin_first r2) ?_
    walk_at "sx"
    by_cases same : firstV r1 = firstV r2 ∧ exs r1 = exs r2
    · rw [if_pos (by simpa using same)]
      exact k _ _ e3 (.inl ⟨rfl, same⟩)
    rw [if_neg (by simpa using same)]
    refine ⟨⟨by decide, by decide⟩, fun q nq => ⟨by decide, fun z nz1 => ⟨by decide, fun w1 nw1 => ?_⟩⟩⟩
    have eq1 := Ex.new nq (o := .lst (rgV 0 40))
    have ez := Ex.new nz1 (o := .lst [])
    have ew := Ex.new nw1 (o := .lst [V.ref z])
    have E := ((e3.trans eq1).trans ez).trans ew
    have E3 := (eq1.trans ez).trans ew
    have hq : (upd (upd (upd H3 q (HO.lst (rgV 0 40))) z (HO.lst [])) w1 (HO.lst [V.ref z])) q = some (.lst (p40.map V.int)) := by
      rw [ew _ _ (ez _ _ upd_same), rgV_ints]
      rfl
    have hw : LLs (upd (upd (upd H3 q (HO.lst (rgV 0 40))) z (HO.lst [])) w1 (HO.lst [V.ref z])) w1 [[]] := ⟨[z], upd_same, rfl, fun i r hr => by
      cases i with
      | zero =>
        have : z = r := by simpa using hr
        subst this
        exact ⟨fun e => (by rw [← e, upd_same] at nw1; cases nw1), ew _ _ upd_same⟩
      | succ i => simp at hr⟩
    have hx4 := hx.ex E3
    have hy4 := hy.ex E3
    have hwv : (upd (upd (upd H3 q (HO.lst (rgV 0 40))) z (HO.lst [])) w1 (HO.lst [V.ref z])) w1 = some (.lst [V.ref z]) := upd_same
    generalize (upd (upd (upd H3 q (HO.lst (rgV 0 40))) z (HO.lst [])) w1 (HO.lst [V.ref z])) = H4 at E hq hw hwv hx4 hy4 ⊢
    refine ⟨⟨_, .inl (.inl hq)⟩, fun D nD => ?_⟩
    refine lc_listE (xs := p40.map V.int) (fun i H' => Ex H4 H' ∧ LLs H' D (trs1.take i)) ⟨Ex.new nD, LLs.nil upd_same⟩ (fun i H' _ hP => .inl (.inl (hP.1 _ _ hq))) (fun i v H' hv hP => ?_) (fun H5 hP => ?_)
    · obtain ⟨e, hD⟩ := hP
      obtain ⟨n, hn, rfl⟩ := ints_at hv
      have hi := (List.getElem?_eq_some_iff.mp hn).1
      have en : n = (i : Int) := by
        unfold p40 at hn hi
        rw [List.length_map, List.length_range] at hi
        rw [List.getElem?_map, List.getElem?_range hi] at hn
        exact (Option.some.inj hn).symm
      have hi40 : i < 40 := by unfold p40 at hi; rwa [List.length_map, List.length_range] at hi
      subst en
      walk_at "sx"
      refine ⟨rfl, ?_⟩
      simp only [wipe, List.set_cons_zero, List.set_cons_succ, List.map_cons, List.map_nil, List.foldl_cons, List.foldl_nil]
      walk_at "sx"
      refine ⟨sz_ok (by omega), fun r nr => ?_⟩
      have er := Ex.new nr (o := .lst [V.int (i : Nat)])
      obtain ⟨xs0, hx0, _⟩ := hD
      have nDr : D ≠ r := ne_of_none hx0 nr
      have hD : LLs H' D (trs1.take i) := ⟨xs0, hx0, by assumption⟩
      obtain ⟨xs, hx, lx, hn2⟩ := (hD.ex er).snoc (l := [(i : Int)]) nDr.symm upd_same
      refine ⟨xs, hx, BC.sz_lt (by rw [lx, List.length_take]; omega), (e.trans er).mut nD, ?_⟩
      rw [trs1_at hi40]
      exact hn2
    obtain ⟨e5, hD⟩ := hP
    rw [List.length_map, show p40.length = trs1.length from rfl, List.take_of_length_le (Nat.le_refl _)] at hD
    obtain ⟨ts, hDx, _⟩ := id hD
    have lt := hD.len hDx
    rw [trs1_len] at lt
    refine catL (e5 _ _ hwv) hDx (sz_ok (by rw [lt]; simp)) fun u nu => ?_
    have eu := Ex.new nu (o := .lst ([V.ref z] ++ ts.map V.ref))
    have hu := LLs.cat (hw.ex e5) hD _ _ (e5 _ _ hwv) hDx nu
    have hux : (upd H5 u (HO.lst ([V.ref z] ++ List.map V.ref ts))) u = some (HO.lst ([V.ref z] ++ List.map V.ref ts)) := upd_same
    have eU := e5.trans eu
    generalize (upd H5 u (HO.lst ([V.ref z] ++ List.map V.ref ts))) = H6 at eU hu hux ⊢
    refine ⟨⟨_, .inl (.inl (eU _ _ hq))⟩, fun D2 nD2 => ?_⟩
    refine lc2_list (xs := p40.map V.int) (fun i H' => Ex H6 H' ∧ LLs H' D2 (trs2.take (40 * i))) ⟨Ex.new nD2, LLs.nil upd_same⟩ (fun i H' _ hP => .inl (.inl (hP.1 _ _ (eU _ _ hq)))) (fun i v H' hv hP => ?_) (fun H7 hP => ?_)
    · obtain ⟨e, hD2⟩ := hP
      obtain ⟨n, hn, rfl⟩ := ints_at hv
      have hi := (List.getElem?_eq_some_iff.mp hn).1
      have hi40 : i < 40 := by unfold p40 at hi; rwa [List.length_map, List.length_range] at hi
      have en : n = (i : Int) := by
        unfold p40 at hn
        rw [List.getElem?_map, List.getElem?_range hi40] at hn
        exact (Option.some.inj hn).symm
      subst en
      walk_at "sx"
      refine ⟨rfl, ?_⟩
      simp only [wipe, List.set_cons_zero, List.set_cons_succ, List.map_cons, List.map_nil, List.foldl_cons, List.foldl_nil]
      walk_at "sx"
      refine ⟨⟨_, .inl (.inl (e _ _ (eU _ _ hq)))⟩, ?_⟩
      refine lc2i_list (xs := p40.map V.int) (fun j H' => Ex H6 H' ∧ LLs H' D2 (trs2.take (40 * i + j))) ⟨e, hD2⟩ (fun j H' _ hP => .inl (.inl (hP.1 _ _ (eU _ _ hq)))) (fun j v H' hv hP => ?_) (fun H7 hP => ?_)
      · obtain ⟨e, hD2⟩ := hP
        obtain ⟨n, hn, rfl⟩ := ints_at hv
        have hj := (List.getElem?_eq_some_iff.mp hn).1
        have hj40 : j < 40 := by unfold p40 at hj; rwa [List.length_map, List.length_range] at hj
        have en : n = (j : Int) := by
          unfold p40 at hn
          rw [List.getElem?_map, List.getElem?_range hj40] at hn
          exact (Option.some.inj hn).symm
        subst en
        walk_at "sx"
        refine ⟨rfl, ?_⟩
        simp only [wipe, List.set_cons_zero, List.set_cons_succ, List.map_cons, List.map_nil, List.foldl_cons, List.foldl_nil]
        walk_at "sx"
        refine ⟨sz_ok (by omega), fun r nr => ?_⟩
        have er := Ex.new nr (o := .lst [V.int (i : Nat), V.int (j : Nat)])
        obtain ⟨xs0, hx0, _⟩ := id hD2
        have nDr : D2 ≠ r := ne_of_none hx0 nr
        obtain ⟨xs, hx, lx, hn2⟩ := (hD2.ex er).snoc (l := [(i : Int), (j : Int)]) nDr.symm upd_same
        refine ⟨xs, hx, BC.sz_lt (by rw [lx, List.length_take]; omega), (e.trans er).mut nD2, ?_⟩
        rw [trs2_at hi40 hj40]
        exact hn2
      · rw [List.length_map, show p40.length = 40 from by unfold p40; rw [List.length_map, List.length_range]] at hP
        exact hP
    obtain ⟨e7, hD2⟩ := hP
    rw [List.length_map, show 40 * p40.length = trs2.length from by rw [trs2_len]; unfold p40; rw [List.length_map, List.length_range], List.take_of_length_le (Nat.le_refl _)] at hD2
    obtain ⟨ts2, hDx2, _⟩ := id hD2
    have lt2 := hD2.len hDx2
    rw [trs2_len] at lt2
    refine catL (e7 _ _ hux) hDx2 (sz_ok (by rw [lt2, List.length_append, lt]; simp)) fun u2 nu2 => ?_
    have eu2 := Ex.new nu2 (o := .lst (([V.ref z] ++ ts.map V.ref) ++ ts2.map V.ref))
    have hA := LLs.cat (hu.ex e7) hD2 _ _ (e7 _ _ hux) hDx2 nu2
    have hAx : (upd H7 u2 (HO.lst (([V.ref z] ++ ts.map V.ref) ++ ts2.map V.ref))) u2 = some (HO.lst (([V.ref z] ++ ts.map V.ref) ++ ts2.map V.ref)) := upd_same
    have EA := (E.trans eU).trans (e7.trans eu2)
    have hx7 := (hx4.ex eU).ex (e7.trans eu2)
    have hy7 := (hy4.ex eU).ex (e7.trans eu2)
    have lA := hA.len hAx
    generalize ([V.ref z] ++ ts.map V.ref) ++ ts2.map V.ref = xsA at hA hAx eu2 EA hx7 hy7 lA ⊢
    generalize (upd H7 u2 (HO.lst xsA)) = H8 at hA hAx EA hx7 hy7 eu2 ⊢
    refine ⟨u2, rfl, ⟨_, .inl (.inl hAx)⟩, ?_⟩
    refine lg_list (xs := xsA) (fun i σ' H' => ∃ j, σ' = [some (.ref a), some (.ref b), some (.ref q), j, some (.ref x), some (.ref y), none, none] ∧ Ex H8 H' ∧ ∀ t ∈ trsA.take i, (t.length < 2 ∨ t.headD 0 ≠ (t.drop 1).headD 0) → ef r1 t = ef r2 t) ⟨none, rfl, Ex.refl _, fun t h => by simp at h⟩ (fun i σ' H' _ hP => by obtain ⟨_, _, e, _⟩ := hP; exact .inl (.inl (e _ _ hAx))) (fun i v σ' H' hv hP => ?_) (fun σ' H' hP => ?_)
    · obtain ⟨j, rfl, e, hall⟩ := hP
      have hi := (List.getElem?_eq_some_iff.mp hv).1
      rw [lA] at hi
      obtain ⟨t, ht⟩ : ∃ t, trsA[i]? = some t := ⟨_, List.getElem?_eq_getElem hi⟩
      obtain ⟨r, rfl, hr⟩ := hA.at hAx hv ht
      obtain ⟨pt, l2t, ndt, ct⟩ := trsA_cases (List.mem_of_getElem? ht)
      have hr' := e _ _ hr
      have hxe := hx7.ex e
      have hye := hy7.ex e
      have next : ((t.length < 2 ∨ t.headD 0 ≠ (t.drop 1).headD 0) → ef r1 t = ef r2 t) → ∀ H2, Ex H' H2 → (∃ j, ([some (.ref a), some (.ref b), some (.ref q), some (.ref r), some (.ref x), some (.ref y), none, none] : L2.St) = [some (.ref a), some (.ref b), some (.ref q), j, some (.ref x), some (.ref y), none, none] ∧ Ex H8 H2 ∧ ∀ t ∈ trsA.take (i + 1), (t.length < 2 ∨ t.headD 0 ≠ (t.drop 1).headD 0) → ef r1 t = ef r2 t) := fun h H2 e2 => by
        refine ⟨_, rfl, e.trans e2, fun t' h' => ?_⟩
        rw [List.take_add_one, ht, Option.toList_some] at h'
        rcases List.mem_append.mp h' with h' | h'
        · exact hall t' h'
        · rw [List.mem_singleton.mp h']; exact h
      have fin : ∀ H2, Ex H' H2 → (t.length < 2 ∨ t.headD 0 ≠ (t.drop 1).headD 0) → ∃ k, V.bl (!decide (ef r1 t = ef r2 t)) = V.bl k ∧ if k = true then Q (V.ref r) H2 else Ex H8 H2 ∧ ∀ t ∈ trsA.take (i + 1), (t.length < 2 ∨ t.headD 0 ≠ (t.drop 1).headD 0) → ef r1 t = ef r2 t := fun H2 e2 c => by
        refine ⟨_, rfl, ?_⟩
        by_cases q : ef r1 t = ef r2 t
        · rw [decide_eq_true q, if_neg (by decide)]
          obtain ⟨_, _, h1, h2⟩ := next (fun _ => q) H2 e2
          exact ⟨h1, h2⟩
        · rw [decide_eq_false q, if_pos (by decide)]
          exact k _ _ (EA.trans (e.trans e2)) (.inr ⟨r, t, rfl, e2 _ _ hr', ndt c, pt, q⟩)
      walk_at "sx"
      refine lenL (.inl (.inl hr')) ?_
      rw [List.length_map]
      walk_at "sx"
      rcases ct with rfl | ⟨p, rfl⟩ | ⟨p, b2, rfl⟩
      · rw [if_pos (by simp)]
        exact part_body hxe hye p1 p2 l1 l2 hr' (ndt (.inl (by simp))) pt fun H2 e2 => fin H2 e2 (.inl (by simp))
      · rw [if_pos (by simp)]
        exact part_body hxe hye p1 p2 l1 l2 hr' (ndt (.inl (by simp))) pt fun H2 e2 => fin H2 e2 (.inl (by simp))
      · rw [if_neg (by simp)]
        refine ixL (.inl (.inl hr')) (atI_n (j := 0) rfl rfl) ?_
        refine ixL (.inl (.inl hr')) (atI_n (j := 1) rfl rfl) ?_
        walk_at "sx"
        by_cases c : p = b2
        · rw [if_neg (by simpa using c)]
          obtain ⟨_, _, h1, h2⟩ := next (fun q => by rcases q with q | q <;> simp at q; exact absurd c q) H' (Ex.refl _)
          exact ⟨h1, h2⟩
        · rw [if_pos (by simpa using c)]
          exact part_body hxe hye p1 p2 l1 l2 hr' (ndt (.inr c)) pt fun H2 e2 => fin H2 e2 (.inr c)
    · obtain ⟨j, rfl, e, hall⟩ := hP
      rw [lA] at hall
      rw [show (([[]] ++ trs1) ++ trs2 : List (List Int)).length = trsA.length from rfl, List.take_of_length_le (Nat.le_refl _)] at hall
      walk_at "sx"
      exact absurd (parts_all p1 p2 hall) same
end
end LW

set_option Elab.async false
set_option linter.all false
set_option maxRecDepth 100000
set_option maxHeartbeats 4000000
namespace LW
open PySem PySem.Spec PyProof.Rows L2 BC Evl TR EF L2.DX
local macro_rules | `(tactic| walk_at "sx") => `(tactic| try simp only [x_callS, x_callF4, x_lc2, x_callG, x_g0, x_gfor, x_ghead, x_gplain, x_gthen, x_gyield, x_listG, x_lockE, x_lockS, x_daug, x_seq, x_next, x_brk, x_cnt, x_nev, x_ret, x_retN, x_drop, x_ifS, x_asg, x_gn, x_gsub, x_par, x_par3, x_aug, x_for, x_lc, x_rng1, x_rng2, x_rng3, x_ilist, x_itup, x_ienum, x_izip, x_izipA, x_istr, x_var, x_c, x_op, x_un, x_test, x_b, x_chain, x_and, x_or, x_not, x_andV, x_orV, x_notV, x_ife, x_nil, x_cons, x_lst, x_tup, x_cb, x_call, x_callK, x_bm, x_bm0, x_tru, x_sl, x_nopart, x_part, x_revL, x_I0, x_I, x_U, x_ip, x_ipC, x_eqI, x_neI, x_eqB, x_neB, x_eqS, x_neS, x_isB, x_isNB, x_lrg, x_gall, x_lenSet, x_sortSet, x_rg1, x_rg2, x_dnewK, x_dnewT, x_dget, x_dget1, x_dget2, x_din, x_dnotin, x_dput, x_ikeys, x_fld, x_sfld, x_prop, x_meth, x_make, x_dc, x_callO, x_callOK,
  L2.start, List.map_cons, List.map_nil, List.length_cons, List.length_nil, Nat.reduceAdd, Nat.reduceSub, Nat.sub_self, Nat.zero_add, List.replicate, List.replicate_succ, List.replicate_zero, List.append_nil, List.cons_append, List.nil_append, List.set_cons_zero, List.set_cons_succ, List.getElem?_cons_zero, List.getElem?_cons_succ, Option.some.injEq, V.int.injEq, V.bl.injEq, V.ref.injEq, V.str.injEq, List.cons.injEq, and_true, true_and, exists_eq_left', exists_eq_left, exists_and_left, exists_eq, if_true, if_false, ite_true, ite_false, Bool.true_eq_false, Bool.false_eq_true, reduceIte, reduceCtorEq, Bool.not_true, Bool.not_false, decide_true, decide_false, decide_eq_true_eq, Bool.and_true, Bool.true_and, Bool.and_self, Bool.and_false, Bool.false_and, Bool.or_self, Bool.or_false, Bool.false_or, Bool.or_true, Bool.true_or, eq_self])
section
variable {P : Program} {w : World} {K : PySem.W.Frag} {mg : Str → Option Value} {base : Heap}
def spBag : Sp := fun vs H Q _ => ∃ (n : Int) (k : Nat), vs = [.int n, .int k] ∧ k < 64 ∧ ∀ p H', H p = none → Ex H H' → BagAt H' p 0 → Q (.ref p) H'
theorem ok_law_bag (T : Txt K mg) : FnOk P w K mg base CX0 1 T.f_law_bag T.fd_law_bag ["_law_cell", "_law_turn"] spBag := by
  refine T.F_law_bag.ok sc_law_bag (fun vs H Q E h => ?_) (fun cdv A outer s H vs Q E hr h => ?_)
  · obtain ⟨n, k, rfl, _⟩ := h
    rfl
  · obtain ⟨n, k, rfl, hk, kk⟩ := h
    apply Exists.intro
    apply And.intro
    · apply pss_cons
      · exact (ps_set (i := 2) sc_law_bag.nd rfl (.inl rfl) (pe_callB (call_max2 rfl) (by rfl) T.n_max (by decide +kernel) (pa_cons (pv 0) (pa_cons (pe_op op_sub pe_int (pv 0)) pa_nil))))
      apply pss_one
      exact (ps_ret (pe_lst (pa_cons (pe_callB (call_max2 rfl) (by rfl) T.n_max (by decide +kernel) (pa_cons pe_int (pa_cons (pe_op op_sub (pv 2) (pe_op op_powX pe_int pe_int)) pa_nil))) (pa_cons (pe_op op_modX (pe_op op_add (pe_op op_mulX (pv 0) (pe_op op_powX pe_int pe_int)) (pe_op op_mulX (pe_op op_powX pe_int pe_int) (pe_op op_add (pv 1) pe_int))) (pe_op op_add (pe_op op_powX pe_int pe_int) pe_int)) (pa_cons pe_int pa_nil)))))
    refine seq_asg (fun v H' => ∃ z : Int, v = .int z ∧ H' = H) (fun R hR => ?_) (fun v H1 hC => ?_)
    · walk_at "sx"
      refine ⟨_, _, ⟨rfl, rfl⟩, ?_⟩
      exact hR _ _ ⟨_, rfl, rfl⟩
    obtain ⟨z, rfl, rfl⟩ := hC
    walk_at "sx"
    have t18 : Int.toNat 18 = 18 := rfl
    have t42 : Int.toNat 42 = 42 := rfl
    have t3 : Int.toNat 3 = 3 := rfl
    have t4 : Int.toNat 4 = 4 := rfl
    rw [t42, t3, t4]
    refine ⟨⟨by decide, by decide, by decide⟩, _, _, ⟨rfl, rfl⟩, ⟨by decide, by decide, by decide⟩, .inl (.inr ⟨by decide, by decide⟩), ⟨by decide, by decide, by decide⟩, .inl (.inr ⟨by omega, by omega⟩), ⟨by decide, by decide, by decide⟩, by decide, sz_ok (by omega), fun p np => ?_⟩
    have m0 : 0 ≤ (n * 1000003 ^ 3 + 161803409 ^ 4 * ((k : Int) + 1)) % (10 ^ 42 + 63) := Int.emod_nonneg _ (by decide)
    have m1 : (n * 1000003 ^ 3 + 161803409 ^ 4 * ((k : Int) + 1)) % (10 ^ 42 + 63) < 10 ^ 42 + 63 := Int.emod_lt_of_pos _ (by decide)
    exact kk p _ np (Ex.new np) ⟨_, _, _, upd_same, m0, by omega, by omega, by omega⟩
theorem ok_law_draw (T : Txt K mg) : FnOk P w K mg base CX0 1 T.f_law_draw T.fd_law_draw ["_law_bag_here", "_law_most"] spDraw := by
  refine T.F_law_draw.ok sc_law_draw (fun vs H Q E h => ?_) (fun cdv A outer s H vs Q E hr h => ?_)
  · obtain ⟨b, m, c, rfl, _⟩ := h
    rfl
  · obtain ⟨b, m, c, rfl, h1, h2, hB, hc, k⟩ := h
    obtain ⟨x0, x1, x2, hb, h3, h4, h5, h6⟩ := hB
    apply Exists.intro
    apply And.intro
    · apply pss_cons
      · apply ps_if
        · exact (pt_cmpR op_gt (pe_ix (k_ix_list (K := K) rfl) (pv 0) pe_int (fun _ _ => rfl)) pe_int (by rfl))
        · apply pss_cons
          · exact (ps_set (i := 3) sc_law_draw.nd rfl (.inl rfl) (pe_op op_modX (pe_ix (k_ix_list (K := K) rfl) (pv 0) pe_int (fun _ _ => rfl)) (pv 1)))
          apply pss_cons
          · exact (ps_asg (pe_op op_fdivX (pe_ix (k_ix_list (K := K) rfl) (pv 0) pe_int (fun _ _ => rfl)) (pv 1)) (pg_sub (pv 0) pe_int set_list))
          apply pss_one
          exact (ps_ret (pv 3))
        · exact pss_nil
      apply pss_cons
      · exact (ps_asg (pe_op op_add (pe_ix (k_ix_list (K := K) rfl) (pv 0) pe_int (fun _ _ => rfl)) pe_int) (pg_sub (pv 0) pe_int set_list))
      apply pss_cons
      · exact (ps_set (i := 2) sc_law_draw.nd rfl (.inl rfl) (pe_op op_modX (pe_op op_add (pe_ix (k_ix_list (K := K) rfl) (pv 0) pe_int (fun _ _ => rfl)) (pe_op op_mulX (pe_ix (k_ix_list (K := K) rfl) (pv 0) pe_int (fun _ _ => rfl)) (pe_op op_powX pe_int pe_int))) (pe_op op_add (pe_op op_powX pe_int pe_int) pe_int)))
      apply pss_cons
      · exact (ps_set (i := 2) sc_law_draw.nd rfl (.inl rfl) (pe_op op_add (pe_op op_modX (pe_op op_powX (pv 2) pe_int) (pe_op op_add (pe_op op_powX pe_int pe_int) pe_int)) (pe_op op_mulX (pe_ix (k_ix_list (K := K) rfl) (pv 0) pe_int (fun _ _ => rfl)) pe_int)))
      apply pss_one
      exact (ps_ret (pe_op op_modX (pe_op op_fdivX (pe_op op_modX (pe_op op_powX (pv 2) pe_int) (pe_op op_add (pe_op op_powX pe_int pe_int) pe_int)) pe_int) (pv 1)))
    walk_at "sx"
    refine ixL (.inl (.inl hb)) (atI_n (j := 0) rfl rfl) ?_
    walk_at "sx"
    have hdm : ∀ i, CDivW i m := fun i => wide_div (b := 2001) h1 (big_lt h1 h2) (by omega) (by omega)
    by_cases h0 : x0 > 1
    · simp only [h0, if_true]
      refine ixL (.inl (.inl hb)) (atI_n (j := 0) rfl rfl) ?_
      walk_at "sx"
      refine ⟨h1, ?_⟩
      refine ixL (.inl (.inl hb)) (atI_n (j := 0) rfl rfl) ?_
      walk_at "sx"
      refine ⟨hdm _, ?_⟩
      refine setL hb (ixN_n (j := 0) rfl (by simp)) ?_
      exact k _ _ (Int.emod_nonneg _ (by omega)) (Int.emod_lt_of_pos _ h1) Fx.put ⟨_, _, _, upd_same, h3, h4, h5, by omega⟩
    · simp only [h0, if_false]
      refine ixL (.inl (.inl hb)) (atI_n (j := 2) rfl rfl) ?_
      walk_at "sx"
      refine setL hb (ixN_n (j := 2) rfl (by simp)) ?_
      have hb2 : (upd H b (.lst [V.int x0, V.int x1, V.int (x2 + 1)])) b = some (.lst [V.int x0, V.int x1, V.int (x2 + 1)]) := upd_same
      refine ixL (.inl (.inl hb2)) (atI_n (j := 1) rfl rfl) ?_
      walk_at "sx"
      refine ixL (.inl (.inl hb2)) (atI_n (j := 2) rfl rfl) ?_
      walk_at "sx"
      have t42 : Int.toNat 42 = 42 := rfl
      have t39 : Int.toNat 39 = 39 := rfl
      have t37 : Int.toNat 37 = 37 := rfl
      have t3 : Int.toNat 3 = 3 := rfl
      have t5 : Int.toNat 5 = 5 := rfl
      rw [t42, t39, t3]
      generalize hz : (x1 + (x2 + 1) * 2971215073 ^ 3) % (10 ^ 42 + 63) = z
      have hz0 : 0 ≤ z := by rw [← hz]; exact Int.emod_nonneg _ (by decide)
      have hz1 : z < 10 ^ 42 + 63 := by rw [← hz]; exact Int.emod_lt_of_pos _ (by decide)
      refine ⟨⟨by decide, by decide, by decide⟩, .inl (.inl ⟨by omega, by omega⟩), ⟨by decide, by decide, by decide⟩, by decide, ⟨by decide, by decide, Nat.lt_of_lt_of_le (log2_small (k := 200) (by decide) (by omega)) (by decide)⟩, ⟨by decide, by decide, by decide⟩, by decide, ?_⟩
      refine ixL (.inl (.inl hb2)) (atI_n (j := 2) rfl rfl) ?_
      walk_at "sx"
      rw [t37, t5]
      generalize hy : z ^ 3 % (10 ^ 39 + 33) = y
      have hy0 : 0 ≤ y := by rw [← hy]; exact Int.emod_nonneg _ (by decide)
      have hy1 : y < 10 ^ 39 + 33 := by rw [← hy]; exact Int.emod_lt_of_pos _ (by decide)
      refine ⟨.inl (.inl ⟨by omega, by omega⟩), ⟨by decide, by decide, Nat.lt_of_lt_of_le (log2_small (k := 200) (by decide) (by omega)) (by decide)⟩, ⟨by decide, by decide, by decide⟩, by decide, ⟨by decide, by decide⟩, h1, ?_⟩
      exact k _ _ (Int.emod_nonneg _ (by omega)) (Int.emod_lt_of_pos _ h1) Fx.put ⟨_, _, _, hb2, h3, h4, by omega, by omega⟩
def spCells (K : PySem.W.Frag) : Sp := fun vs H Q _ => ∃ (a : Addr) (ns : List Int), vs = [.ref a] ∧ SqL K H a (ns.map V.int) ∧ ns.length ≤ 63 ∧ ∀ p ms H', H p = none → Ex H H' → H' p = some (.lst ((ms : List Int).map V.int)) → ms.length ≤ 64 → Q (.ref p) H'
theorem ok_law_cells (T : Txt K mg) : FnOk P w K mg base CX0 3 T.f_law_cells T.fd_law_cells ["_law_script"] (spCells K) := by
  refine T.F_law_cells.ok sc_law_cells (fun vs H Q E h => ?_) (fun cdv A outer s H vs Q E hr h => ?_)
  · obtain ⟨a, ns, rfl, _⟩ := h
    rfl
  · obtain ⟨a, ns, rfl, hA, hl, k⟩ := h
    apply Exists.intro
    apply And.intro
    · apply pss_one
      exact (ps_ret (pe_op op_cat (pe_lst (pa_cons (pe_callB (k_len (K := K) rfl) (by rfl) T.n_len PySem.boot_len (pa_cons (pv 0) pa_nil)) pa_nil)) (pe_slice (k_sl_list (K := K) rfl) (pv 0) po_none (po_some pe_int))))
    walk_at "sx"
    refine lenL hA ?_
    refine ⟨sz_ok (by simp), fun z nz1 => ?_⟩
    have ez := Ex.new nz1 (o := .lst [V.int (((ns.map V.int).length : Nat) : Int)])
    refine slL (ex_l ez hA) fun y ny => ?_
    have ey := Ex.new ny (o := .lst (cutV (ns.map V.int) none (some 7)))
    obtain ⟨ms, hms, hml⟩ : ∃ ms : List Int, cutV (ns.map V.int) none (some 7) = ms.map V.int ∧ ms.length ≤ 63 := by
      refine ⟨ns.take 7, ?_, by rw [List.length_take]; omega⟩
      rw [List.map_take]
      unfold cutV
      rw [show (7 : Int) = ((7 : Nat) : Int) from rfl, HT.sIx_nat, HT.sIx_none, List.drop_zero, Nat.sub_zero, List.length_map]
      by_cases c : 7 ≤ ns.length
      · rw [Nat.min_eq_left c]
      · rw [Nat.min_eq_right (by omega), List.take_of_length_le (by rw [List.length_map]; exact Nat.le_refl _), List.take_of_length_le (by rw [List.length_map]; omega)]
    rw [hms] at ey ⊢
    refine catL (ey _ _ upd_same) upd_same (sz_ok (by simp; omega)) fun p np => ?_
    have ep := Ex.new np (o := .lst ([V.int (((ns.map V.int).length : Nat) : Int)] ++ ms.map V.int))
    exact k p ((((ns.map V.int).length : Nat) : Int) :: ms) _ (fresh_back (ez.trans ey) np) ((ez.trans ey).trans ep) upd_same (by rw [List.length_cons]; omega)
theorem names_nodup (s0 : Int) {N : Nat} (h : N ≤ 40) : ((List.range N).map fun i : Nat => (s0 + 7 * (i : Int)) % 40).Nodup := by
  unfold List.Nodup
  rw [List.pairwise_map]
  refine List.Pairwise.imp_of_mem ?_ List.nodup_range
  intro x y hx hy ne e
  rw [List.mem_range] at hx hy
  exact ne (by omega)
def spNames : Sp := fun vs H Q _ => ∃ (b : Addr) (m c : Nat), vs = [.ref b, .int m] ∧ 1 ≤ m ∧ m ≤ 40 ∧ BagAt H b c ∧ c ≤ 100000 ∧ ∀ p ns H', H p = none → Fx b H H' → BagAt H' b (c + 4) → H' p = some (.lst ((ns : List Int).map V.int)) → 1 ≤ ns.length → ns.length ≤ 40 → Pg 40 ns → ns.Nodup → Q (.ref p) H'
theorem ok_law_names (T : Txt K mg) : FnOk P w K mg base CX0 2 T.f_law_names T.fd_law_names ["_law_bag_here", "_law_most"] spNames := by
  refine T.F_law_names.ok sc_law_names (fun vs H Q E h => ?_) (fun cdv A outer s H vs Q E hr h => ?_)
  · obtain ⟨b, m, c, rfl, _⟩ := h
    rfl
  · obtain ⟨b, m, c, rfl, h1, h2, hB, hc, k⟩ := h
    apply Exists.intro
    apply And.intro
    · apply pss_cons
      · exact (ps_asg (pe_tup (pa_cons (pe_call (ok_law_draw T) (hr.mono (by decide)) (by rfl) T.m_law_draw T.F_law_draw.kp T.b_law_draw .nil pass0 (pa_cons (pv 0) (pa_cons pe_int pa_nil))) (pa_cons (pe_ix (k_ix_list (K := K) rfl) (pe_lst (pa_cons (pe_op op_add pe_int (pe_call (ok_law_draw T) (hr.mono (by decide)) (by rfl) T.m_law_draw T.F_law_draw.kp T.b_law_draw .nil pass0 (pa_cons (pv 0) (pa_cons pe_int pa_nil)))) (pa_cons (pe_op op_add pe_int (pe_call (ok_law_draw T) (hr.mono (by decide)) (by rfl) T.m_law_draw T.F_law_draw.kp T.b_law_draw .nil pass0 (pa_cons (pv 0) (pa_cons (pv 1) pa_nil)))) (pa_cons (pv 1) pa_nil)))) (pe_call (ok_law_draw T) (hr.mono (by decide)) (by rfl) T.m_law_draw T.F_law_draw.kp T.b_law_draw .nil pass0 (pa_cons (pv 0) (pa_cons pe_int pa_nil))) (fun _ _ => rfl)) pa_nil))) (k_tup (K := K) (n := 2) rfl rfl (pgs_cons (pg_name (i := 2) sc_law_names.nd rfl (.inr rfl)) (pgs_cons (pg_name (i := 3) sc_law_names.nd rfl (.inl rfl)) pgs_nil))))
      apply pss_one
      exact (ps_ret (pe_lc (own := [("_law_spot", 4)]) rfl sc_law_names.nd (pi_range1 (by rfl) T.n_range (pa_cons (pe_callB (call_min2 rfl) (by rfl) T.n_min (by decide +kernel) (pa_cons (pv 3) (pa_cons (pv 1) pa_nil))) pa_nil)) (blkOk_by (own := [("_law_spot", 4)]) (N := ["_law_bag_here", "_law_most", "_law_begin", "_law_size", "_law_spot"]) (sc := defScope s_law_names) (by decide +kernel)) (fun _ _ _ _ _ => by exact (pg_name (i := 4) sc_law_names.nd rfl (.inl rfl))) (fun _ _ _ _ _ => by exact pts_nil) (fun _ _ _ _ _ => by exact (pe_op op_modX (pe_op op_add (pv 2) (pe_op op_mulX pe_int (pv 4))) pe_int))))
    refine seq_cut (fun σ' H' => ∃ (s0 : Int) (sz : Nat), σ' = [some (.ref b), some (.int m), some (.int s0), some (.int sz), none] ∧ 0 ≤ s0 ∧ s0 < 40 ∧ 1 ≤ sz ∧ sz ≤ 40 ∧ Fx b H H' ∧ BagAt H' b (c + 4)) (fun N hN => ?_) (fun σ1 H1 hC => ?_)
    · walk_at "sx"
      refine ⟨b, _, _, rfl, by omega, big_of (by omega), hB, by omega, fun r1 H1 r10 r11 f1 b1 => ?_⟩
      refine ⟨b, _, _, rfl, by omega, big_of (by omega), b1, by omega, fun r2 H2 r20 r21 f2 b2 => ?_⟩
      walk_at "sx"
      refine ⟨b, _, _, rfl, by omega, big_of (by omega), b2, by omega, fun r3 H3 r30 r31 f3 b3 => ?_⟩
      walk_at "sx"
      refine ⟨sz_ok (by simp), fun z nz1 => ?_⟩
      have ez := Ex.new nz1 (o := .lst [V.int (1 + r2), V.int (1 + r3), V.int m])
      refine ⟨b, _, _, rfl, by omega, big_of (by omega), b3.ex ez, by omega, fun r4 H4 r40 r41 f4 b4 => ?_⟩
      obtain ⟨s, hs, hat⟩ := pickI (ns := [1 + r2, 1 + r3, (m : Int)]) r40 r41
      simp only [List.mem_cons, List.mem_nil_iff, or_false] at hs
      refine ixL (.inl (.inl (f4 _ _ (b3.apart nz1) upd_same))) hat ?_
      refine ⟨sz_ok (by simp), fun T nT => ?_⟩
      refine g_two upd_same ?_
      have eT := Ex.new nT (o := .tup [V.int r1, V.int s])
      exact hN _ _ ⟨r1, s.toNat, by rw [Int.toNat_of_nonneg (by omega)]; rfl, r10, r11, by omega, by omega, ((((f1.trans f2).trans f3).trans (Fx.of ez)).trans f4).trans (Fx.of eT), b4.ex eT⟩
    obtain ⟨s0, sz, rfl, s1, s2, z1, z2, f1, b1⟩ := hC
    walk_at "sx"
    refine ⟨_, _, ⟨rfl, rfl⟩, ?_⟩
    obtain ⟨N, hN, n1, n2⟩ : ∃ N : Nat, (if (m : Int) < (sz : Int) then (m : Int) else (sz : Int)) = (N : Int) ∧ 1 ≤ N ∧ N ≤ 40 := by
      split
      · exact ⟨m, rfl, by omega, by omega⟩
      · exact ⟨sz, rfl, by omega, by omega⟩
    rw [hN]
    refine ⟨by omega, by omega, fun D nD => ?_⟩
    rw [Int.toNat_natCast]
    refine lc_rng (lo := 0) (n := N) (fun _ => true) (fun i => V.int ((s0 + 7 * (i : Int)) % 40)) nD (by omega) (fun u => rfl) (fun i hi => tyes) (fun i hi _ => ?_) (fun H2 e2 hD => ?_)
    · refine ev_is (ev_op (ev_op (ev_var rfl) (ev_op ev_c (ev_var rfl) (rv_I (.inl (.inl ⟨by omega, by omega⟩)))) rv_I0) ev_c (rv_I (by omega))) ?_
      rw [show (0 : Int) + (i : Int) = (i : Int) by omega]
    · rw [kept_all] at hD
      have er : (List.range N).map (fun i : Nat => V.int ((s0 + 7 * (i : Int)) % 40)) = ((List.range N).map fun i : Nat => (s0 + 7 * (i : Int)) % 40).map V.int := by rw [List.map_map]; rfl
      rw [er] at hD
      refine k D _ _ ?_ (f1.trans (Fx.of e2)) (b1.ex e2) hD (by rw [List.length_map, List.length_range]; exact n1) (by rw [List.length_map, List.length_range]; exact n2) (fun x hx => ?_) (names_nodup s0 n2)
      · exact fx_none f1 nD (b1.apart nD)
      · obtain ⟨i, _, rfl⟩ := List.mem_map.mp hx
        exact ⟨Int.emod_nonneg _ (by decide), Int.emod_lt_of_pos _ (by decide)⟩
/-- drawn visits -/
def spRow : Sp := fun vs H Q _ => ∃ (b a : Addr) (ns : List Int) (m c : Nat), vs = [.ref b, .ref a, .int m] ∧ H a = some (.lst (ns.map V.int)) ∧ a ≠ b ∧ 1 ≤ ns.length ∧ ns.length ≤ 40 ∧ Pg 40 ns ∧ m ≤ 300 ∧ BagAt H b c ∧ c ≤ 100000 ∧ ∀ p L H', H p = none → Fx b H H' → BagAt H' b (c + 400) → H' p = some (.lst ((L : List Int).map V.int)) → L.length ≤ m → Pg 40 L → Q (.ref p) H'
def JRw (H : Hp) (b a : Addr) (ns : List Int) (m st sz c : Nat) (i : Nat) (σ' : L2.St) (H' : Hp) : Prop := ∃ l3 f sp L, σ' = [some (.ref b), some (.ref a), some (.int m), l3, some (.int st), some (.int sz), some (.ref f), some (.int sp)] ∧ 0 ≤ sp ∧ sp < ns.length ∧ H f = none ∧ Fx b H H' ∧ BagAt H' b (c + 3 + i) ∧ H' f = some (.lst ((L : List Int).map V.int)) ∧ L.length = i ∧ Pg 40 L
theorem ok_law_row (T : Txt K mg) : FnOk P w K mg base CX0 3 T.f_law_row T.fd_law_row ["_law_bag_here", "_law_names_here", "_law_most"] spRow := by
  refine T.F_law_row.ok sc_law_row (fun vs H Q E h => ?_) (fun cdv A outer s H vs Q E hr h => ?_)
  · obtain ⟨b, a, ns, m, c, rfl, _⟩ := h
    rfl
  · obtain ⟨b, a, ns, m, c, rfl, hA, nab, n1, n2, np, hm, hB, hc, k⟩ := h
    apply Exists.intro
    apply And.intro
    · apply pss_cons
      · exact (ps_par (i := 4) (j := 5) (by rfl) sc_law_row.nd rfl rfl (by decide) rfl rfl (pa_cons (pe_call (ok_law_draw T) (hr.mono (by decide)) (by rfl) T.m_law_draw T.F_law_draw.kp T.b_law_draw .nil pass0 (pa_cons (pv 0) (pa_cons pe_int pa_nil))) (pa_cons (pe_ix (k_ix_list (K := K) rfl) (pe_lst (pa_cons (pe_call (ok_law_draw T) (hr.mono (by decide)) (by rfl) T.m_law_draw T.F_law_draw.kp T.b_law_draw .nil pass0 (pa_cons (pv 0) (pa_cons (pe_op op_add (pv 2) pe_int) pa_nil))) (pa_cons (pv 2) pa_nil))) (pe_call (ok_law_draw T) (hr.mono (by decide)) (by rfl) T.m_law_draw T.F_law_draw.kp T.b_law_draw .nil pass0 (pa_cons (pv 0) (pa_cons pe_int pa_nil))) (fun _ _ => rfl)) pa_nil)) (by rfl))
      apply pss_cons
      · exact (ps_par (i := 6) (j := 7) (by rfl) sc_law_row.nd rfl rfl (by decide) rfl rfl (pa_cons (pe_lst pa_nil) (pa_cons pe_int pa_nil)) (by rfl))
      apply pss_cons
      · apply ps_for PassesOwn.never rfl
        · exact (pi_range1 (by rfl) T.n_range (pa_cons (pv 5) pa_nil))
        · exact (pg_name (i := 3) sc_law_row.nd rfl (.inl rfl))
        · apply pss_cons
          · apply ps_if
            · exact (pt_cmpR op_eq (pv 4) pe_int (by rfl))
            · apply pss_one
              exact (ps_set (i := 7) sc_law_row.nd rfl (.inl rfl) (pe_call (ok_law_draw T) (hr.mono (by decide)) (by rfl) T.m_law_draw T.F_law_draw.kp T.b_law_draw .nil pass0 (pa_cons (pv 0) (pa_cons (pe_callB (k_len (K := K) rfl) (by rfl) T.n_len PySem.boot_len (pa_cons (pv 1) pa_nil)) pa_nil))))
            · exact pss_nil
          apply pss_cons
          · apply ps_if
            · exact (pt_cmpR op_eq (pv 4) pe_int (by rfl))
            · apply pss_one
              exact (ps_set (i := 7) sc_law_row.nd rfl (.inl rfl) (pe_callB (call_max2 rfl) (by rfl) T.n_max (by decide +kernel) (pa_cons pe_int (pa_cons (pe_callB (call_min2 rfl) (by rfl) T.n_min (by decide +kernel) (pa_cons (pe_op op_sub (pe_callB (k_len (K := K) rfl) (by rfl) T.n_len PySem.boot_len (pa_cons (pv 1) pa_nil)) pe_int) (pa_cons (pe_op op_sub (pe_op op_add (pv 7) pe_int) (pe_op op_mulX pe_int (pe_callTy call_int1 (by rfl) T.n_int (by decide +kernel) (pa_cons (pe_cmpR op_eq (pe_call (ok_law_draw T) (hr.mono (by decide)) (by rfl) T.m_law_draw T.F_law_draw.kp T.b_law_draw .nil pass0 (pa_cons (pv 0) (pa_cons pe_int pa_nil))) pe_int (by rfl)) pa_nil)))) pa_nil))) pa_nil))))
            · exact pss_nil
          apply pss_cons
          · apply ps_if
            · exact (pt_cmpR op_eq (pv 4) pe_int (by rfl))
            · apply pss_one
              exact (ps_set (i := 7) sc_law_row.nd rfl (.inl rfl) (pe_ifExp (pt_cmpR op_eq (pe_op op_modX (pv 3) pe_int) pe_int (by rfl)) (pe_call (ok_law_draw T) (hr.mono (by decide)) (by rfl) T.m_law_draw T.F_law_draw.kp T.b_law_draw .nil pass0 (pa_cons (pv 0) (pa_cons (pe_callB (k_len (K := K) rfl) (by rfl) T.n_len PySem.boot_len (pa_cons (pv 1) pa_nil)) pa_nil))) (pe_call (ok_law_draw T) (hr.mono (by decide)) (by rfl) T.m_law_draw T.F_law_draw.kp T.b_law_draw .nil pass0 (pa_cons (pv 0) (pa_cons (pe_callB (call_min2 rfl) (by rfl) T.n_min (by decide +kernel) (pa_cons pe_int (pa_cons (pe_callB (k_len (K := K) rfl) (by rfl) T.n_len PySem.boot_len (pa_cons (pv 1) pa_nil)) pa_nil))) pa_nil)))))
            · exact pss_nil
          apply pss_one
          exact (ps_expr (k_bm (K := K) rfl (pe_bm PySem.F.plainAttrs_list PySem.F.slot_list_append PySem.F.type_list_append mt_append (pv 6) (pa_cons (pe_ix (k_ix_list (K := K) rfl) (pv 1) (pv 7) (fun _ _ => rfl)) pa_nil))))
      apply pss_one
      exact (ps_ret (pv 6))
    refine seq_cut (fun σ' H' => ∃ (st sz : Nat), σ' = [some (.ref b), some (.ref a), some (.int m), none, some (.int st), some (.int sz), none, none] ∧ sz ≤ m ∧ Fx b H H' ∧ BagAt H' b (c + 3)) (fun N hN => ?_) (fun σ1 H1 hC => ?_)
    · walk_at "sx"
      refine ⟨b, _, _, rfl, by omega, big_of (by omega), hB, by omega, fun r1 H1 r10 r11 f1 b1 => ?_⟩
      walk_at "sx"
      refine ⟨b, _, _, rfl, by omega, big_of (by omega), b1, by omega, fun r2 H2 r20 r21 f2 b2 => ?_⟩
      refine ⟨sz_ok (by simp), fun z nz1 => ?_⟩
      have ez := Ex.new nz1 (o := .lst [V.int r2, V.int m])
      refine ⟨b, _, _, rfl, by omega, big_of (by omega), b2.ex ez, by omega, fun r4 H4 r40 r41 f4 b4 => ?_⟩
      obtain ⟨s, hs, hat⟩ := pickI (ns := [r2, (m : Int)]) r40 r41
      simp only [List.mem_cons, List.mem_nil_iff, or_false] at hs
      refine ixL (.inl (.inl (f4 _ _ (b2.apart nz1) upd_same))) hat ?_
      refine ⟨_, _, ⟨rfl, rfl⟩, ?_⟩
      exact hN _ _ ⟨r1.toNat, s.toNat, by rw [Int.toNat_of_nonneg (by omega), Int.toNat_of_nonneg (by omega)], by omega, ((f1.trans f2).trans (Fx.of ez)).trans f4, b4⟩
    obtain ⟨st, sz, rfl, hsz, f1, b1⟩ := hC
    walk_at "sx"
    refine ⟨sz_ok (by simp), fun f nf => ?_⟩
    have ef := Ex.new nf (o := .lst [])
    refine ⟨_, _, ⟨rfl, rfl⟩, by omega, by omega, ?_⟩
    rw [Int.toNat_natCast]
    have nfb : f ≠ b := b1.apart nf
    have nfH : H f = none := fx_none f1 nf nfb
    refine lg_rng (JRw H b a ns m st sz c) ⟨none, f, 0, [], rfl, by omega, by omega, nfH, f1.trans (Fx.of ef), (b1.ex ef).mono (by omega), upd_same, rfl, pg_nil _⟩ (fun i σ' H' hi hP => ?_) (fun σ' H' hP => ?_)
    · obtain ⟨l3, f, sp, L, rfl, p0, p1, nf, fx, hb, hf, hL, hpg⟩ := hP
      have nfb : f ≠ b := fun e => by subst e; obtain ⟨o, ho⟩ := hB.some; rw [nf] at ho; cases ho
      have hA' := fx _ _ nab hA
      simp only [x_gn, List.set_cons_zero, List.set_cons_succ]
      have stay : ∀ (sp : Int) (H2 : Hp), 0 ≤ sp → sp < ns.length → Fx b H' H2 → BagAt H2 b (c + 3 + i + 1) → 
          ∃ x, atI (ns.map V.int) sp = some (.int x) ∧ JRw H b a ns m st sz c (i + 1) [some (.ref b), some (.ref a), some (.int m), some (.int (0 + (i : Int))), some (.int st), some (.int sz), some (.ref f), some (.int sp)] (upd H2 f (.lst (L.map V.int ++ [V.int x]))) := fun sp H2 s0 s1 f2 b2 => by
        have hx : ns[sp.toNat]? = some ns[sp.toNat] := List.getElem?_eq_getElem (by omega)
        refine ⟨ns[sp.toNat], atI_n (j := sp.toNat) (by omega) (at_ints hx), _, f, sp, L ++ [ns[sp.toNat]], rfl, s0, s1, nf, (fx.trans f2).mut nf, (b2.off nfb).mono (by omega), by rw [upd_same, List.map_append]; rfl, by rw [List.length_append, hL]; rfl, fun y hy => ?_⟩
        rcases List.mem_append.mp hy with h | h
        · exact hpg y h
        · rw [List.mem_singleton.mp h]; exact np.at hx
      refine seq_cut (fun σ' H2 => ∃ sp : Int, σ' = [some (.ref b), some (.ref a), some (.int m), some (.int (0 + (i : Int))), some (.int st), some (.int sz), some (.ref f), some (.int sp)] ∧ 0 ≤ sp ∧ sp < ns.length ∧ ((st ≠ 0 ∧ H2 = H') ∨ (st = 0 ∧ Fx b H' H2 ∧ BagAt H2 b (c + 3 + i + 1)))) (fun N hN => ?_) (fun σ2 H2 hC => ?_)
      · walk_at "sx"
        by_cases c0 : st = 0
        · subst c0
          have z0 : (((0 : Nat) : Int) = 0) := rfl
          rw [if_pos z0]
          refine lenL (.inl (.inl hA')) ?_
          rw [List.length_map]
          refine ⟨b, _, _, rfl, by omega, big_of (by omega), hb, by omega, fun r1 H2 r10 r11 f2 b2 => ?_⟩
          exact hN _ _ ⟨r1, rfl, r10, r11, .inr ⟨rfl, f2, b2⟩⟩
        · rw [if_neg (by omega)]
          exact hN _ _ ⟨sp, rfl, p0, p1, .inl ⟨c0, rfl⟩⟩
      obtain ⟨sp2, rfl, q0, q1, hor⟩ := hC
      refine seq_cut (fun σ' H3 => ∃ sp : Int, σ' = [some (.ref b), some (.ref a), some (.int m), some (.int (0 + (i : Int))), some (.int st), some (.int sz), some (.ref f), some (.int sp)] ∧ 0 ≤ sp ∧ sp < ns.length ∧ ((st ≠ 0 ∧ st ≠ 1 ∧ H3 = H') ∨ ((st = 0 ∨ st = 1) ∧ Fx b H' H3 ∧ BagAt H3 b (c + 3 + i + 1)))) (fun N hN => ?_) (fun σ3 H3 hC => ?_)
      · walk_at "sx"
        by_cases c1 : st = 1
        · subst c1
          have z1 : (((1 : Nat) : Int) = 1) := rfl
          rw [if_pos z1]
          have eH : H2 = H' := by
            rcases hor with ⟨_, h⟩ | ⟨h, _⟩
            · exact h
            · omega
          subst eH
          refine lenL (.inl (.inl hA')) ?_
          rw [List.length_map]
          refine ⟨_, _, rfl, rfl, ?_⟩
          refine ⟨b, _, _, rfl, by omega, big_of (by omega), hb, by omega, fun r1 H4 r10 r11 f2 b2 => ?_⟩
          walk_at "sx"
          refine .inr ⟨.inl (.inl ⟨by omega, by omega⟩), _, _, ⟨rfl, rfl⟩, _, _, ⟨rfl, rfl⟩, ?_⟩
          refine hN _ _ ⟨_, rfl, ?_, ?_, .inr ⟨.inr rfl, f2, b2⟩⟩
          · split <;> omega
          · split <;> split <;> omega
        · rw [if_neg (by omega)]
          refine hN _ _ ⟨sp2, rfl, q0, q1, ?_⟩
          rcases hor with ⟨h1, h2⟩ | ⟨h1, h2, h3⟩
          · exact .inl ⟨h1, c1, h2⟩
          · exact .inr ⟨.inl h1, h2, h3⟩
      obtain ⟨sp3, rfl, q0, q1, hor⟩ := hC
      refine seq_cut (fun σ' H4 => ∃ sp : Int, σ' = [some (.ref b), some (.ref a), some (.int m), some (.int (0 + (i : Int))), some (.int st), some (.int sz), some (.ref f), some (.int sp)] ∧ 0 ≤ sp ∧ sp < ns.length ∧ Fx b H' H4 ∧ BagAt H4 b (c + 3 + i + 1)) (fun N hN => ?_) (fun σ4 H4 hC => ?_)
      · walk_at "sx"
        by_cases c2 : st = 2
        · subst c2
          have z2 : (((2 : Nat) : Int) = 2) := rfl
          rw [if_pos z2]
          have eH : H3 = H' := by
            rcases hor with ⟨_, _, h⟩ | ⟨h, _⟩
            · exact h
            · omega
          subst eH
          refine ⟨by decide, ?_⟩
          by_cases ev : (0 + (i : Int)) % 2 = 0
          · rw [if_pos ev]
            refine lenL (.inl (.inl hA')) ?_
            rw [List.length_map]
            refine ⟨b, _, _, rfl, by omega, big_of (by omega), hb, by omega, fun r1 H4 r10 r11 f2 b2 => ?_⟩
            exact hN _ _ ⟨r1, rfl, r10, r11, f2, b2⟩
          · rw [if_neg ev]
            refine lenL (.inl (.inl hA')) ?_
            rw [List.length_map]
            walk_at "sx"
            refine ⟨_, _, ⟨rfl, rfl⟩, ?_⟩
            refine ⟨b, _, _, rfl, by split <;> omega, big_of (by split <;> omega), hb, by omega, fun r1 H4 r10 r11 f2 b2 => ?_⟩
            exact hN _ _ ⟨r1, rfl, r10, by split at r11 <;> omega, f2, b2⟩
        · rw [if_neg (by omega)]
          rcases hor with ⟨h1, h2, rfl⟩ | ⟨h1, h2, h3⟩
          · exact hN _ _ ⟨sp3, rfl, q0, q1, Fx.refl _ _, hb.mono (by omega)⟩
          · exact hN _ _ ⟨sp3, rfl, q0, q1, h2, h3⟩
      obtain ⟨sp4, rfl, q0, q1, f4, b4⟩ := hC
      obtain ⟨x, hx, J⟩ := stay sp4 H4 q0 q1 f4 b4
      have hf4 := f4 _ _ nfb hf
      walk_at "sx"
      refine ⟨tyL hf4, ?_⟩
      refine ixL (.inl (.inl (f4 _ _ nab hA'))) hx ?_
      exact appL hf4 (BC.sz_lt (by rw [List.length_map]; omega)) J
    · obtain ⟨l3, f, sp, L, rfl, p0, p1, nf, fx, hb, hf, hL, hpg⟩ := hP
      walk_at "sx"
      exact k f L _ nf fx (hb.mono (by omega)) hf (by omega) hpg
end
section
variable {P : Program} {w : World} {K : PySem.W.Frag} {mg : Str → Option Value} {base : Heap}
theorem neLL {H : Hp} {Q : VK} {x y : V} {as bs : List (List Int)} (h : Dp K H x (dLL as)) (g : Dp K H y (dLL bs)) (q : Q (.bl (!decide (as = bs))) H) : rNeD K x y H Q :=
  ⟨_, _, h, g, shp_LL _, shp_LL _, by rw [eqv_LL]; exact q⟩
theorem cut_from {xs : List V} {j : Nat} (h : j ≤ xs.length) : cutV xs (some (j : Int)) none = xs.drop j := by
  unfold cutV
  rw [HT.sIx_nat, HT.sIx_none, Nat.min_eq_left h, List.take_of_length_le (Nat.le_of_eq List.length_drop)]
theorem EffAt.fxb {C : Addr} {H H' : Hp} {x b : Addr} {c : Nat} {v : V} {qs : List (Int × Int)} (h : EffAt C H x v qs) (hb : BagAt H b c) (f : Fx b H H') : EffAt C H' x v qs := by
  obtain ⟨x0, x1, x2, hb, _⟩ := hb
  obtain ⟨dx, t, d, ts, h1, h2, h3, h4, h5⟩ := h
  have g : ∀ a o, H a = some o → o ≠ .lst [V.int x0, V.int x1, V.int x2] → H' a = some o := fun a o e ne => f _ _ (ne_of e hb ne) e
  exact ⟨dx, t, d, ts, g _ _ h1 (by intro z; cases z), g _ _ h2 (by intro z; cases z), h3, fun i u hi => g _ _ (h4 i u hi) (by intro z; cases z), g _ _ h5 (by intro z; cases z)⟩
theorem exs_app {r s : List Int} (h : ∀ x, nx s x = nx r x) : exs (r ++ s) = exs r := by
  cases s with
  | nil => rw [List.append_nil]
  | cons b s =>
    refine exs_congr fun x => ?_
    rw [nx_app, h]
    cases nx r x <;> rfl
theorem first_app {r s : List Int} (h : r.head? = s.head?) : firstV (r ++ s) = firstV r := by
  cases r with
  | nil => cases s with
    | nil => rfl
    | cons b s => cases h
  | cons a r => rfl
theorem pg_app {r1 r2 : List Int} (h1 : Pg 40 r1) (h2 : Pg 40 r2) : Pg 40 (r1 ++ r2) := fun x hx => (List.mem_append.mp hx).elim (h1 x) (h2 x)
theorem addE {T : Txt K mg} {H : Hp} {Q : VK} {x y : Addr} {r1 r2 : List Int} (hx : EffAt T.C_Effect H x (firstV r1) (exs r1)) (hy : EffAt T.C_Effect H y (firstV r2) (exs r2)) (p1 : Pg 40 r1) (p2 : Pg 40 r2) (q : ∀ z H', H z = none → Ex H H' → EffAt T.C_Effect H' z (firstV (r1 ++ r2)) (exs (r1 ++ r2)) → Q (.ref z) H') : rAddO T.C_Effect (spAddE T.C_Effect K) E0 (.ref x) (.ref y) H Q := by
  obtain ⟨dx, t, d, ts0, x1, _⟩ := id hx
  obtain ⟨dx2, t2, d2, ts2, y1, _⟩ := id hy
  exact ⟨x, y, dx, _, dx2, _, rfl, rfl, x1, y1, x, y, r1, r2, rfl, hx, hy, p1, p2, fun z H' n e h => ⟨z, rfl, q z H' n e h⟩⟩
theorem head_of {l r : List Int} (h : l.headD 0 = r.headD 0) (hn : l = [] ↔ r = []) : l.head? = r.head? := by
  cases l with
  | nil => rw [hn.mp rfl]
  | cons a l => cases r with
    | nil => cases hn.mpr rfl
    | cons b r => exact congrArg some h
/-- trails that were not there -/
def Five (H' : Hp) (b : Addr) (as : List Addr) : Prop := ∀ a ∈ as, a ≠ b ∧ ∃ ns : List Int, H' a = some (.lst (ns.map V.int)) ∧ ns.Nodup ∧ Pg 40 ns
def spRight (K : PySem.W.Frag) : Sp := fun vs H Q _ => ∃ (s b : Addr) (ns : List Int) (c : Nat), vs = [.ref s, .ref b] ∧ (∀ H', Fx b H H' → SqL K H' s (ns.map V.int)) ∧ ns.length ≤ 63 ∧ BagAt H b c ∧ c ≤ 1000 ∧ ∀ H', Fx b H H' → Q (.bl true) H'
def JMd (H7 : Hp) (b l D : Addr) (c : Nat) (i : Nat) (H' : Hp) : Prop := ∃ L2 M : List Int, H' l = some (.lst (L2.map V.int)) ∧ H' D = some (.lst (M.map V.int)) ∧ L2.length = 40 - i ∧ M.length = i ∧ (L2 ++ M).Nodup ∧ Pg 40 (L2 ++ M) ∧ BagAt H' b (c + 405 + i) ∧ (∀ a o, a ≠ b → a ≠ l → H7 a = some o → H' a = some o)
def JPa (H7 : Hp) (σ0 : Option V → L2.St) (i : Nat) (σ' : L2.St) (H' : Hp) : Prop := ∃ j, σ' = σ0 j ∧ Ex H7 H'
theorem ok_law_right (T : Txt K mg) : FnOk P w K mg base CX0 10 T.f_law_right T.fd_law_right ["_law_script", "_law_bag_here"] (spRight K) := by
  refine T.F_law_right.ok sc_law_right (fun vs H Q E h => ?_) (fun cdv A outer s H vs Q E hr h => ?_)
  · obtain ⟨s, b, ns, c, rfl, _⟩ := h
    rfl
  · obtain ⟨s, b, ns, c, rfl, hA, hl, hB, hc, k⟩ := h
    apply Exists.intro
    apply And.intro
    · apply pss_cons
      · exact (ps_set (i := 2) sc_law_right.nd rfl (.inl rfl) (pe_call (ok_law_names T) (hr.mono (by decide)) (by rfl) T.m_law_names T.F_law_names.kp T.b_law_names .nil pass0 (pa_cons (pv 1) (pa_cons (pe_ifExp (pt_cmpR (k_eqD (K := K) rfl hr.units) (pv 0) (pe_lst pa_nil) (by rfl)) pe_int pe_int) pa_nil))))
      apply pss_cons
      · exact (ps_set (i := 3) sc_law_right.nd rfl (.inl rfl) (pe_call (ok_law_row T) (hr.mono (by decide)) (by rfl) T.m_law_row T.F_law_row.kp T.b_law_row .nil pass0 (pa_cons (pv 1) (pa_cons (pv 2) (pa_cons (pe_ifExp (pt_cmpR (k_eqD (K := K) rfl hr.units) (pv 0) (pe_lst pa_nil) (by rfl)) pe_int pe_int) pa_nil)))))
      apply pss_cons
      · exact (ps_set (i := 4) sc_law_right.nd rfl (.inl rfl) (pe_call (ok_effect_of T) (hr.mono (by decide)) (by rfl) T.m_effect_of T.F_effect_of.kp T.b_effect_of .nil pass0 (pa_cons (pv 3) pa_nil)))
      apply pss_cons
      · exact (ps_set (i := 5) sc_law_right.nd rfl (.inl rfl) (pe_call (ok_law_draw T) (hr.mono (by decide)) (by rfl) T.m_law_draw T.F_law_draw.kp T.b_law_draw .nil pass0 (pa_cons (pv 1) (pa_cons (pe_op op_add (pe_callB (k_len (K := K) rfl) (by rfl) T.n_len PySem.boot_len (pa_cons (pv 3) pa_nil)) pe_int) pa_nil))))
      apply pss_cons
      · exact (ps_par (i := 11) (j := 12) (by rfl) sc_law_right.nd rfl rfl (by decide) rfl rfl (pa_cons (pe_slice (k_sl_list (K := K) rfl) (pv 3) po_none (po_some (pv 5))) (pa_cons (pe_slice (k_sl_list (K := K) rfl) (pv 3) (po_some (pv 5)) po_none) pa_nil)) (by rfl))
      apply pss_cons
      · apply ps_if
        · exact (PW.pt (pw_or (pt_not (pt_cmpR (k_eqO (K := K) rfl T.h_Effect___eq T.i_Effect___eq (ok_Effect___eq T) (hr.mono (by decide)) hr.units T.b_Effect___eq pass0) (pe_op (op_addO T.h_Effect___add T.i_Effect___add T.x_Effect.sf (ok_Effect___add T) (hr.mono (by decide)) T.b_Effect___add pass0) (pe_call (ok_effect_of T) (hr.mono (by decide)) (by rfl) T.m_effect_of T.F_effect_of.kp T.b_effect_of .nil pass0 (pa_cons (pv 11) pa_nil)) (pe_call (ok_effect_of T) (hr.mono (by decide)) (by rfl) T.m_effect_of T.F_effect_of.kp T.b_effect_of .nil pass0 (pa_cons (pv 12) pa_nil))) (pv 4) (by rfl))) (pw_or1 (pt_cmpR (k_neD (K := K) rfl hr.units) (pe_callO (pv 4) T.o_Effect___call (ok_Effect___call T) (hr.mono (by decide)) T.b_Effect___call .nil pass0 (pa_cons (pe_lst pa_nil) pa_nil)) (pe_call (ok_trail_after T) (hr.mono (by decide)) (by rfl) T.m_trail_after T.F_trail_after.kp T.bd_trail_after T.dr_trail_after pass0 (pa_cons (pv 3) pa_nil)) (by rfl)))))
        · apply pss_one
          exact (ps_ret pe_bl)
        · exact pss_nil
      apply pss_cons
      · exact (ps_set (i := 6) sc_law_right.nd rfl (.inr rfl) (pe_listRg rfl (by rfl) T.n_list (prg_1 (by rfl) T.n_range pe_int)))
      apply pss_cons
      · exact (ps_setLc (i := 7) (own := [("_law_turn", 13)]) rfl sc_law_right.nd rfl rfl (sw_true rfl rfl rfl (by decide +kernel)) (pi_range1 (by rfl) T.n_range (pa_cons pe_int pa_nil)) (blkOk_by (own := [("_law_turn", 13)]) (N := ["_law_script", "_law_bag_here", "_law_names_here", "_law_row_here", "_law_made", "_law_cut", "_law_left", "_law_mixed", "_law_path", "_law_short", "_law_stages", "_law_front", "_law_behind", "_law_turn"]) (sc := defScope s_law_right) (by decide +kernel)) (fun _ _ _ _ _ => by exact (pg_name (i := 13) sc_law_right.nd rfl (.inl rfl))) (fun _ _ _ _ _ => by exact pts_nil) (fun _ _ _ _ _ => by exact (k_bm (K := K) rfl (pe_bm PySem.F.plainAttrs_list PySem.F.slot_list_pop PySem.F.type_list_pop mt_popAt (pv 6) (pa_cons (pe_call (ok_law_draw T) (hr.mono (by decide)) (by rfl) T.m_law_draw T.F_law_draw.kp T.b_law_draw .nil pass0 (pa_cons (pv 1) (pa_cons (pe_callB (k_len (K := K) rfl) (by rfl) T.n_len PySem.boot_len (pa_cons (pv 6) pa_nil)) pa_nil))) pa_nil)))))
      apply pss_cons
      · apply ps_for PassesOwn.never rfl
        · exact (k_pi_list (K := K) rfl (pe_lst (pa_cons (pv 7) (pa_cons (pe_slice (k_sl_list (K := K) rfl) (pv 7) po_none (po_some pe_int)) (pa_cons (pe_slice (k_sl_list (K := K) rfl) (pv 2) po_none (po_some pe_int)) (pa_cons (pe_slice (k_sl_list (K := K) rfl) (pv 11) po_none (po_some pe_int)) (pa_cons (pe_lst (pa_cons pe_int pa_nil)) pa_nil)))))))
        · exact (pg_name (i := 8) sc_law_right.nd rfl (.inl rfl))
        · apply pss_cons
          · apply ps_if
            · exact (pt_cmpR (k_neD (K := K) rfl hr.units) (pe_callO (pv 4) T.o_Effect___call (ok_Effect___call T) (hr.mono (by decide)) T.b_Effect___call .nil pass0 (pa_cons (pv 8) pa_nil)) (pe_callK (ok_trail_after T) (hr.mono (by decide)) (by rfl) T.m_trail_after T.F_trail_after.kp T.k_trail_after_1_1 pass0 (pa_cons (pv 3) pa_nil) (pk_cons (pv 8) pk_nil)) (by rfl))
            · apply pss_one
              exact (ps_ret pe_bl)
            · exact pss_nil
          apply pss_one
          apply ps_if
          · exact (pt_cmpR (k_neD (K := K) rfl hr.units) (pe_callOX (pe_call (ok_effect_of T) (hr.mono (by decide)) (by rfl) T.m_effect_of T.F_effect_of.kp T.b_effect_of .nil pass0 (pa_cons (pv 12) pa_nil)) T.o_Effect___call (ok_Effect___call T) (hr.mono (by decide)) T.b_Effect___call .nil pass0 (pa_cons (pe_callOX (pe_call (ok_effect_of T) (hr.mono (by decide)) (by rfl) T.m_effect_of T.F_effect_of.kp T.b_effect_of .nil pass0 (pa_cons (pv 11) pa_nil)) T.o_Effect___call (ok_Effect___call T) (hr.mono (by decide)) T.b_Effect___call .nil pass0 (pa_cons (pv 8) pa_nil)) pa_nil)) (pe_callO (pv 4) T.o_Effect___call (ok_Effect___call T) (hr.mono (by decide)) T.b_Effect___call .nil pass0 (pa_cons (pv 8) pa_nil)) (by rfl))
          · apply pss_one
            exact (ps_ret pe_bl)
          · exact pss_nil
      apply pss_cons
      · exact (ps_set (i := 9) sc_law_right.nd rfl (.inl rfl) (pe_callS (ok_nth_shortest T) (hr.mono (by decide)) (by rfl) T.m_nth_shortest T.F_nth_shortest.kp T.b_nth_shortest (fun σ => passAt takes0 σ) (pa_cons (pv 4) (pa_cons (pe_call (ok_law_draw T) (hr.mono (by decide)) (by rfl) T.m_law_draw T.F_law_draw.kp T.b_law_draw .nil pass0 (pa_cons (pv 1) (pa_cons (pe_callS (ok_count_shortest T) (hr.mono (by decide)) (by rfl) T.m_count_shortest T.F_count_shortest.kp T.b_count_shortest (fun σ => passAt takes0 σ) (pa_cons (pv 4) pa_nil)) pa_nil))) pa_nil))))
      apply pss_cons
      · apply ps_if
        · exact (PW.pt (pw_or (pt_cmpR op_ne (pe_callB (k_len (K := K) rfl) (by rfl) T.n_len PySem.boot_len (pa_cons (pv 9) pa_nil)) (pe_callS (ok_fewest_visits T) (hr.mono (by decide)) (by rfl) T.m_fewest_visits T.F_fewest_visits.kp T.b_fewest_visits (fun σ => passAt takes0 σ) (pa_cons (pv 4) pa_nil)) (by rfl)) (pw_or (pt_cmpR op_gt (pe_callB (k_len (K := K) rfl) (by rfl) T.n_len PySem.boot_len (pa_cons (pv 9) pa_nil)) (pe_callB (k_len (K := K) rfl) (by rfl) T.n_len PySem.boot_len (pa_cons (pv 3) pa_nil)) (by rfl)) (pw_or1 (pt_not (pt_val (pe_call (ok_same_effect T) (hr.mono (by decide)) (by rfl) T.m_same_effect T.F_same_effect.kp T.b_same_effect .nil pass0 (pa_cons (pv 3) (pa_cons (pv 9) pa_nil)))))))))
        · apply pss_one
          exact (ps_ret pe_bl)
        · exact pss_nil
      apply pss_cons
      · exact (ps_set (i := 10) sc_law_right.nd rfl (.inl rfl) (pe_listG0 (pgen_call (ok_trails_along T) (hr.mono (by decide)) (by rfl) T.m_trails_along T.F_trails_along.kp T.b_trails_along .nil (pa_cons (pv 9) pa_nil)) (hr.mono (by decide)) (by rfl) T.n_list (by decide +kernel)))
      apply pss_cons
      · apply ps_if
        · exact (PW.pt (pw_or (PW.pt (pw_and (pt_cmpR (k_neD (K := K) rfl hr.units) (pv 10) (pe_lst pa_nil) (by rfl)) (pw_and1 (pt_cmpR (k_neD (K := K) rfl hr.units) (pe_ix (k_ix_list (K := K) rfl) (pv 10) (pe_un un_neg pe_int) (fun _ _ => rfl)) (pe_call (ok_trail_after T) (hr.mono (by decide)) (by rfl) T.m_trail_after T.F_trail_after.kp T.bd_trail_after T.dr_trail_after pass0 (pa_cons (pv 3) pa_nil)) (by rfl))))) (pw_or1 (pt_cmpR (k_neD (K := K) rfl hr.units) (pe_call (ok_visits_of T) (hr.mono (by decide)) (by rfl) T.m_visits_of T.F_visits_of.kp T.b_visits_of .nil pass0 (pa_cons (pv 10) pa_nil)) (pv 9) (by rfl)))))
        · apply pss_one
          exact (ps_ret pe_bl)
        · exact pss_nil
      apply pss_cons
      · apply ps_if
        · exact (PW.pt (pw_or (pt_not (pt_cmpR (k_eqO (K := K) rfl T.h_Effect___eq T.i_Effect___eq (ok_Effect___eq T) (hr.mono (by decide)) hr.units T.b_Effect___eq pass0) (pe_op (op_addO T.h_Effect___add T.i_Effect___add T.x_Effect.sf (ok_Effect___add T) (hr.mono (by decide)) T.b_Effect___add pass0) (pv 4) (pe_call (ok_effect_of T) (hr.mono (by decide)) (by rfl) T.m_effect_of T.F_effect_of.kp T.b_effect_of .nil pass0 (pa_cons (pv 9) pa_nil))) (pv 4) (by rfl))) (pw_or1 (pt_not (pt_cmpR (k_eqO (K := K) rfl T.h_Effect___eq T.i_Effect___eq (ok_Effect___eq T) (hr.mono (by decide)) hr.units T.b_Effect___eq pass0) (pe_call (ok_effect_of T) (hr.mono (by decide)) (by rfl) T.m_effect_of T.F_effect_of.kp T.b_effect_of .nil pass0 (pa_cons (pe_op op_cat (pv 9) (pv 3)) pa_nil)) (pv 4) (by rfl))))))
        · apply pss_one
          exact (ps_ret pe_bl)
        · exact pss_nil
      apply pss_cons
      · exact (ps_set (i := 8) sc_law_right.nd rfl (.inl rfl) (pe_call (ok_parting_trail T) (hr.mono (by decide)) (by rfl) T.m_parting_trail T.F_parting_trail.kp T.b_parting_trail .nil pass0 (pa_cons (pv 11) (pa_cons (pv 12) pa_nil))))
      apply pss_cons
      · apply ps_if
        · exact (pt_cmpR op_isN (pv 8) pe_non (by rfl))
        · apply pss_one
          exact (ps_ret (pe_call (ok_same_effect T) (hr.mono (by decide)) (by rfl) T.m_same_effect T.F_same_effect.kp T.b_same_effect .nil pass0 (pa_cons (pv 11) (pa_cons (pv 12) pa_nil))))
        · exact pss_nil
      apply pss_one
      exact (ps_ret (pe_cmpR (k_neD (K := K) rfl hr.units) (pe_callK (ok_trail_after T) (hr.mono (by decide)) (by rfl) T.m_trail_after T.F_trail_after.kp T.k_trail_after_1_1 pass0 (pa_cons (pv 11) pa_nil) (pk_cons (pv 8) pk_nil)) (pe_callK (ok_trail_after T) (hr.mono (by decide)) (by rfl) T.m_trail_after T.F_trail_after.kp T.k_trail_after_1_1 pass0 (pa_cons (pv 12) pa_nil) (pk_cons (pv 8) pk_nil)) (by rfl)))
    obtain ⟨ob, hbo⟩ := hB.some
    refine seq_cut (fun σ' H' => ∃ p ms, σ' = [some (.ref s), some (.ref b), some (.ref p), none, none, none, none, none, none, none, none, none, none, none] ∧ Fx b H H' ∧ BagAt H' b (c + 4) ∧ H' p = some (.lst ((ms : List Int).map V.int)) ∧ p ≠ b ∧ 1 ≤ ms.length ∧ ms.length ≤ 40 ∧ Pg 40 ms ∧ ms.Nodup) (fun N hN => ?_) (fun σ1 H1 hC => ?_)
    · walk_at "sx"
      refine ⟨sz_ok (by omega), fun z nz1 => ?_⟩
      have ez := Ex.new nz1 (o := .lst [])
      refine eqInts (ns := ns) (ms := []) (hA _ (Fx.of ez)) (.inl (.inl upd_same)) ?_
      refine ⟨_, rfl, ?_⟩
      split
      · refine ⟨b, 4, c, rfl, by omega, by omega, hB.ex ez, by omega, fun p ms H' np f1 b1 hp l1 l2 pg nd => ?_⟩
        exact hN _ _ ⟨p, ms, rfl, (Fx.of ez).trans f1, b1, hp, (hB.ex ez).apart np, l1, l2, pg, nd⟩
      · refine ⟨b, 40, c, rfl, by omega, by omega, hB.ex ez, by omega, fun p ms H' np f1 b1 hp l1 l2 pg nd => ?_⟩
        exact hN _ _ ⟨p, ms, rfl, (Fx.of ez).trans f1, b1, hp, (hB.ex ez).apart np, l1, l2, pg, nd⟩
    obtain ⟨p, ms, rfl, f1, b1, hp, npb, l1, l2, pg, nd⟩ := hC
    have hA1 := hA _ f1
    refine seq_cut (fun σ' H' => ∃ r L, σ' = [some (.ref s), some (.ref b), some (.ref p), some (.ref r), none, none, none, none, none, none, none, none, none, none] ∧ Fx b H1 H' ∧ BagAt H' b (c + 4 + 400) ∧ H' r = some (.lst ((L : List Int).map V.int)) ∧ r ≠ b ∧ L.length ≤ 100 ∧ Pg 40 L) (fun N hN => ?_) (fun σ2 H2 hC => ?_)
    · walk_at "sx"
      refine ⟨sz_ok (by omega), fun z nz1 => ?_⟩
      have ez := Ex.new nz1 (o := .lst [])
      refine eqInts (ns := ns) (ms := []) (ex_l ez hA1) (.inl (.inl upd_same)) ?_
      refine ⟨_, rfl, ?_⟩
      split
      · refine ⟨b, p, ms, 6, c + 4, rfl, ez _ _ hp, npb, l1, l2, pg, by omega, b1.ex ez, by omega, fun r L H' nr f2 b2 hr lr pr => ?_⟩
        exact hN _ _ ⟨r, L, rfl, (Fx.of ez).trans f2, b2, hr, (b1.ex ez).apart nr, by omega, pr⟩
      · refine ⟨b, p, ms, 100, c + 4, rfl, ez _ _ hp, npb, l1, l2, pg, by omega, b1.ex ez, by omega, fun r L H' nr f2 b2 hr lr pr => ?_⟩
        exact hN _ _ ⟨r, L, rfl, (Fx.of ez).trans f2, b2, hr, (b1.ex ez).apart nr, by omega, pr⟩
    obtain ⟨r, L, rfl, f2, b2, hr, nrb, lr, pr⟩ := hC
    have hp2 := f2 _ _ npb hp
    have fx2 := f1.trans f2
    clear b1 hB hA hA1 hp f1 f2
    refine seq_cut (fun σ' H' => ∃ m, σ' = [some (.ref s), some (.ref b), some (.ref p), some (.ref r), some (.ref m), none, none, none, none, none, none, none, none, none] ∧ Ex H2 H' ∧ EffAt T.C_Effect H' m (firstV L) (exs L)) (fun N hN => ?_) (fun σ3 H3 hC => ?_)
    · walk_at "sx"
      exact ⟨r, L, rfl, .inl (.inl hr), by omega, pr, fun m H3 nm e3 hm => hN _ _ ⟨m, rfl, e3, hm⟩⟩
    obtain ⟨m, rfl, e3, hm⟩ := hC
    have hp3 := e3 _ _ hp2
    have hr3 := e3 _ _ hr
    have b3 := b2.ex e3
    have fx3 := fx2.trans (Fx.of e3)
    clear hp2 hr b2 fx2 e3
    refine seq_cut (fun σ' H' => ∃ q : Nat, σ' = [some (.ref s), some (.ref b), some (.ref p), some (.ref r), some (.ref m), some (.int q), none, none, none, none, none, none, none, none] ∧ Fx b H3 H' ∧ BagAt H' b (c + 405) ∧ q ≤ L.length) (fun N hN => ?_) (fun σ4 H4 hC => ?_)
    · walk_at "sx"
      refine lenL (.inl (.inl hr3)) ?_
      rw [List.length_map]
      walk_at "sx"
      refine ⟨b, _, _, rfl, by omega, big_of (by omega), b3, by omega, fun q H' q0 q1 f4 b4 => ?_⟩
      exact hN _ _ ⟨q.toNat, by rw [Int.toNat_of_nonneg q0], f4, b4, by omega⟩
    obtain ⟨q, rfl, f4, b4, hq⟩ := hC
    have hp4 := f4 _ _ npb hp3
    have hr4 := f4 _ _ nrb hr3
    have hm4 := hm.fxb b3 f4
    have fx4 := fx3.trans f4
    clear hp3 hr3 b3 fx3 hm f4
    refine seq_cut (fun σ' H' => ∃ f g, σ' = [some (.ref s), some (.ref b), some (.ref p), some (.ref r), some (.ref m), some (.int q), none, none, none, none, none, some (.ref f), some (.ref g), none] ∧ Ex H4 H' ∧ f ≠ b ∧ g ≠ b ∧ H' f = some (.lst ((L.take q).map V.int)) ∧ H' g = some (.lst ((L.drop q).map V.int))) (fun N hN => ?_) (fun σ5 H5 hC => ?_)
    · walk_at "sx"
      refine slL (.inl (.inl hr4)) fun f nf => ?_
      rw [cut_take, ← List.map_take]
      have ef1 := Ex.new nf (o := .lst ((L.take q).map V.int))
      refine slL (.inl (.inl (ef1 _ _ hr4))) fun g ng => ?_
      rw [cut_from (by rw [List.length_map]; exact hq), ← List.map_drop]
      have eg1 := Ex.new ng (o := .lst ((L.drop q).map V.int))
      refine ⟨_, _, ⟨rfl, rfl⟩, ?_⟩
      exact hN _ _ ⟨f, g, rfl, ef1.trans eg1, b4.apart nf, (b4.ex ef1).apart ng, eg1 _ _ upd_same, upd_same⟩
    obtain ⟨f, g, rfl, e5, nfb, ngb, hf5, hg5⟩ := hC
    have hp5 := e5 _ _ hp4
    have hr5 := e5 _ _ hr4
    have hm5 := hm4.ex e5
    have b5 := b4.ex e5
    have fx5 := fx4.trans (Fx.of e5)
    clear hp4 hr4 b4 fx4 hm4 e5
    have plf : Pg 40 (L.take q) := pr.take q
    have plg : Pg 40 (L.drop q) := fun x hx => pr x (List.mem_of_mem_drop hx)
    have hfg : L.take q ++ L.drop q = L := List.take_append_drop q L
    have lf : (L.take q).length ≤ 100 := by rw [List.length_take]; omega
    have lg : (L.drop q).length ≤ 100 := by rw [List.length_drop]; omega
    generalize hF : L.take q = F at hf5 plf hfg lf
    generalize hG : L.drop q = G at hg5 plg hfg lg
    clear hF hG
    refine seq_cut (fun σ' H' => σ' = [some (.ref s), some (.ref b), some (.ref p), some (.ref r), some (.ref m), some (.int q), none, none, none, none, none, some (.ref f), some (.ref g), none] ∧ Ex H5 H') (fun N hN => ?_) (fun σ6 H6 hC => ?_)
    · walk_at "sx"
      refine ⟨f, F, rfl, .inl (.inl hf5), by omega, plf, fun x1 G1 n1 g1 hx1 => ?_⟩
      refine ⟨g, G, rfl, .inl (.inl (g1 _ _ hg5)), by omega, plg, fun x2 G2 n2 g2 hx2 => ?_⟩
      refine addE (hx1.ex g2) hx2 plf plg fun x3 G3 n3 g3 hx3 => ?_
      rw [hfg] at hx3
      have g13 := (g1.trans g2).trans g3
      refine eqEff hx3 pr (begin_first _) (hm5.ex g13) pr (begin_first _) ?_
      rw [decide_eq_true ⟨rfl, rfl⟩]
      walk_at "sx"
      refine ⟨sz_ok (by omega), fun z nz1 => ?_⟩
      have ez := Ex.new nz1 (o := .lst [])
      refine ⟨(hm5.ex (g13.trans ez)).ins, m, z, L, [], rfl, hm5.ex (g13.trans ez), pr, by omega, upd_same, List.nodup_nil, pg_nil _, fun l1 G4 n4 g4 hl1 => ?_⟩
      refine ⟨r, L, [], .non, rfl, .inl (.inl (((g13.trans ez).trans g4) _ _ hr5)), by omega, pr, .inl ⟨rfl, rfl⟩, List.nodup_nil, pg_nil _, fun l2 G5 n5 g5 hl2 => ?_⟩
      refine neInts (.inl (.inl (g5 _ _ hl1))) (.inl (.inl hl2)) ?_
      rw [show ef L [] = trf [] L from ef_vis _ _, decide_eq_true rfl]
      walk_at "sx"
      exact hN _ _ ⟨rfl, (((g13.trans ez).trans g4).trans g5)⟩
    obtain ⟨rfl, e6⟩ := hC
    have hp6 := e6 _ _ hp5
    have hr6 := e6 _ _ hr5
    have hf6 := e6 _ _ hf5
    have hg6 := e6 _ _ hg5
    have hm6 := hm5.ex e6
    have b6 := b5.ex e6
    have fx6 := fx5.trans (Fx.of e6)
    clear hp5 hr5 hf5 hg5 hm5 b5 fx5 e6
    refine seq_cut (fun σ' H' => ∃ l, σ' = [some (.ref s), some (.ref b), some (.ref p), some (.ref r), some (.ref m), some (.int q), some (.ref l), none, none, none, none, some (.ref f), some (.ref g), none] ∧ Ex H6 H' ∧ H' l = some (.lst (((List.range 40).map fun i : Nat => ((i : Nat) : Int)).map V.int)) ∧ H6 l = none) (fun N hN => ?_) (fun σ7 H7 hC => ?_)
    · walk_at "sx"
      refine ⟨RgOk.of_le (by omega) (by omega) (by omega) (by omega), fun l nl => ?_⟩
      refine hN _ _ ⟨l, rfl, Ex.new nl, ?_, nl⟩
      rw [upd_same, rgV_ints, show (40 - 0 : Int).toNat = 40 from rfl]
      congr 2
    obtain ⟨l, rfl, e7, hl7, nl6⟩ := hC
    have hp7 := e7 _ _ hp6
    have hr7 := e7 _ _ hr6
    have hf7 := e7 _ _ hf6
    have hg7 := e7 _ _ hg6
    have hm7 := hm6.ex e7
    have b7 := b6.ex e7
    have fx7 := fx6.trans (Fx.of e7)
    have nlb : l ≠ b := b6.apart nl6
    refine seq_cut (fun σ' H' => ∃ D M, σ' = [some (.ref s), some (.ref b), some (.ref p), some (.ref r), some (.ref m), some (.int q), some (.ref l), some (.ref D), none, none, none, some (.ref f), some (.ref g), none] ∧ H' D = some (.lst ((M : List Int).map V.int)) ∧ M.length = 12 ∧ M.Nodup ∧ Pg 40 M ∧ BagAt H' b (c + 405 + 12) ∧ (∀ a o, a ≠ b → a ≠ l → H7 a = some o → H' a = some o) ∧ D ≠ b) (fun N hN => ?_) (fun σ8 H8 hC => ?_)
    · walk_at "sx"
      refine ⟨by omega, by omega, fun D nD => ?_⟩
      have nDl : l ≠ D := ne_of_none hl7 nD
      have nDb : D ≠ b := b7.apart nD
      have eD := Ex.new nD (o := .lst [])
      refine lc_rngE (lo := 0) (n := 12) (JMd H7 b l D c)
        ⟨_, [], eD _ _ hl7, upd_same, by rw [List.length_map, List.length_range], rfl, ?_, ?_, b7.ex eD, fun a o _ _ h => eD a o h⟩ (fun i H' hi hP => ?_) (fun H' hP => ?_)
      · rw [List.append_nil, List.nodup_iff_pairwise_ne, List.pairwise_map]
        exact List.pairwise_lt_range.imp fun h => by omega
      · intro x hx
        rw [List.append_nil] at hx
        obtain ⟨i, hi, rfl⟩ := List.mem_map.mp hx
        have := List.mem_range.mp hi
        omega
      · obtain ⟨L2, M, hq2, hD, lL, lM, nd2, pg2, hb, fx⟩ := hP
        walk_at "sx"
        refine ⟨rfl, ?_⟩
        simp only [wipe, List.set_cons_zero, List.set_cons_succ, List.map_cons, List.map_nil, List.foldl_cons, List.foldl_nil]
        walk_at "sx"
        refine ⟨tyL hq2, ?_⟩
        refine lenL (.inl (.inl hq2)) ?_
        rw [List.length_map]
        refine ⟨b, _, _, rfl, by omega, big_of (by omega), hb, by omega, fun t H2' t0 t1 f2 b2 => ?_⟩
        have hq3 := f2 _ _ nlb hq2
        refine popAtL hq3 t0 t1 (by omega) fun y hy => ?_
        have hD2 := f2 _ _ nDb hD
        have hperm : (L2.eraseIdx t.toNat ++ (M ++ [y])).Perm (L2 ++ M) := by
          have h1 := erase_perm hy
          rw [← List.append_assoc]
          refine (List.perm_append_comm (l₁ := L2.eraseIdx t.toNat ++ M) (l₂ := [y])).trans ?_
          exact h1.append_right M
        refine ⟨_, (upd_ne (Ne.symm nDl)).trans hD2, BC.sz_lt (by rw [List.length_map]; omega), L2.eraseIdx t.toNat, M ++ [y], ?_, ?_, ?_, by rw [List.length_append, lM]; rfl, hperm.nodup_iff.mpr nd2, fun x hx => pg2 x (hperm.mem_iff.mp hx), ?_, ?_⟩
        · rw [upd_ne nDl, upd_same]
        · rw [upd_same, List.map_append]; rfl
        · rw [List.length_eraseIdx_of_lt (by omega)]; omega
        · exact (b2.off nlb).off nDb
        · intro a o n1 n2 h
          have nDa : a ≠ D := ne_of_none h nD
          rw [upd_ne nDa, upd_ne n2]
          exact f2 _ _ n1 (fx a o n1 n2 h)
      · obtain ⟨L2, M, hq2, hD, lL, lM, nd2, pg2, hb, fx⟩ := hP
        exact hN _ _ ⟨D, M, rfl, hD, lM, (List.nodup_append.mp nd2).2.1, fun x hx => pg2 x (List.mem_append_right _ hx), hb, fx, nDb⟩
    obtain ⟨D, M, rfl, hD8, lM, ndM, pgM, b8, f8, nDb⟩ := hC
    have fx8 : Fx b H H8 := fun a o n h => by
      have n2 : a ≠ l := fun z => by
        subst z
        have := fx6 _ _ n h
        rw [nl6] at this
        cases this
      exact f8 a o n n2 (fx7 a o n h)
    have keep : ∀ a o, a ≠ b → H6 a = some o → H8 a = some o := fun a o n h => f8 a o n (ne_of_none h nl6) (e7 a o h)
    have hp8 := keep _ _ npb hp6
    have hr8 := keep _ _ nrb hr6
    have hf8 := keep _ _ nfb hf6
    have hg8 := keep _ _ ngb hg6
    have hm8 := hm6.fxb b6 keep
    clear hp6 hr6 hf6 hg6 hm6 b6 fx6 hp7 hr7 hf7 hg7 hm7 b7 fx7 f8 e7 hl7 keep
    refine seq_cut (fun σ' H' => ∃ j, σ' = [some (.ref s), some (.ref b), some (.ref p), some (.ref r), some (.ref m), some (.int q), some (.ref l), some (.ref D), j, none, none, some (.ref f), some (.ref g), none] ∧ Ex H8 H') (fun N hN => ?_) (fun σ9 H9 hC => ?_)
    · walk_at "sx"
      refine slL (.inl (.inl hD8)) fun a1 n1 => ?_
      rw [show (3 : Int) = ((3 : Nat) : Int) from rfl, cut_take, ← List.map_take]
      have k1 := Ex.new n1 (o := .lst ((M.take 3).map V.int))
      refine slL (.inl (.inl (k1 _ _ hp8))) fun a2 n2 => ?_
      rw [show (5 : Int) = ((5 : Nat) : Int) from rfl, cut_take, ← List.map_take]
      have k2 := Ex.new n2 (o := .lst ((ms.take 5).map V.int))
      refine slL (.inl (.inl ((k1.trans k2) _ _ hf8))) fun a3 n3 => ?_
      rw [show (1 : Int) = ((1 : Nat) : Int) from rfl, cut_take, ← List.map_take]
      have k3 := Ex.new n3 (o := .lst ((F.take 1).map V.int))
      refine ⟨sz_ok (by omega), fun a4 n4 => ?_⟩
      have k4 := Ex.new n4 (o := .lst [V.int 39])
      refine ⟨sz_ok (by omega), fun z nz1 => ?_⟩
      have k5 := Ex.new nz1 (o := .lst [V.ref D, V.ref a1, V.ref a2, V.ref a3, V.ref a4])
      have kE := (((k1.trans k2).trans k3).trans k4).trans k5
      have ha1 := k5 _ _ (k4 _ _ (k3 _ _ (k2 _ _ (upd_same (H := H8) (a := a1) (o := .lst ((M.take 3).map V.int))))))
      have ha2 := k5 _ _ (k4 _ _ (k3 _ _ (upd_same (a := a2) (o := .lst ((ms.take 5).map V.int)))))
      have ha3 := k5 _ _ (k4 _ _ (upd_same (a := a3) (o := .lst ((F.take 1).map V.int))))
      have ha4 := k5 _ _ (upd_same (a := a4) (o := .lst [V.int 39]))
      have haD := kE _ _ hD8
      have hz := upd_same (a := z) (o := .lst [V.ref D, V.ref a1, V.ref a2, V.ref a3, V.ref a4]) (H := upd (upd (upd (upd H8 a1 (.lst ((M.take 3).map V.int))) a2 (.lst ((ms.take 5).map V.int))) a3 (.lst ((F.take 1).map V.int))) a4 (.lst [V.int 39]))
      clear k1 k2 k3 k4 k5 n1 n2 n3 n4 nz1
      generalize (upd (upd (upd (upd (upd H8 a1 (.lst ((M.take 3).map V.int))) a2 (.lst ((ms.take 5).map V.int))) a3 (.lst ((F.take 1).map V.int))) a4 (.lst [V.int 39])) z (.lst [V.ref D, V.ref a1, V.ref a2, V.ref a3, V.ref a4])) = Hz at kE ha1 ha2 ha3 ha4 haD hz ⊢
      have ndF1 : (F.take 1).Nodup := by
        cases F with
        | nil => exact List.nodup_nil
        | cons x xs => simp
      have paths : ∀ (i : Nat) v, [V.ref D, V.ref a1, V.ref a2, V.ref a3, V.ref a4][i]? = some v → ∃ (a : Addr) (ns' : List Int), v = .ref a ∧ Hz a = some (.lst (ns'.map V.int)) ∧ ns'.Nodup ∧ Pg 40 ns' := fun i v hv => by
        have hi := (List.getElem?_eq_some_iff.mp hv).1
        have : i = 0 ∨ i = 1 ∨ i = 2 ∨ i = 3 ∨ i = 4 := by simp at hi; omega
        rcases this with rfl | rfl | rfl | rfl | rfl
        · cases hv; exact ⟨D, M, rfl, haD, ndM, pgM⟩
        · cases hv; exact ⟨a1, M.take 3, rfl, ha1, ndM.sublist (List.take_sublist _ _), pgM.take _⟩
        · cases hv; exact ⟨a2, ms.take 5, rfl, ha2, nd.sublist (List.take_sublist _ _), pg.take _⟩
        · cases hv; exact ⟨a3, F.take 1, rfl, ha3, ndF1, plf.take _⟩
        · cases hv; exact ⟨a4, [39], rfl, ha4, by simp, fun x hx => by rw [List.mem_singleton.mp hx]; omega⟩
      refine ⟨⟨_, .inl (.inl hz)⟩, ?_⟩
      refine lg_list (xs := [V.ref D, V.ref a1, V.ref a2, V.ref a3, V.ref a4]) (fun i σ' H' => ∃ j, σ' = [some (.ref s), some (.ref b), some (.ref p), some (.ref r), some (.ref m), some (.int q), some (.ref l), some (.ref D), j, none, none, some (.ref f), some (.ref g), none] ∧ Ex Hz H') ⟨none, rfl, Ex.refl _⟩ (fun i σ' H' _ hP => by obtain ⟨_, _, e⟩ := hP; exact .inl (.inl (e _ _ hz))) (fun i v σ' H' hv hP => ?_) (fun σ' H' hP => by obtain ⟨j, e1, e2⟩ := hP; exact hN _ _ ⟨j, e1, kE.trans e2⟩)
      obtain ⟨j, rfl, e⟩ := hP
      obtain ⟨a, ns', rfl, ha, nda, pga⟩ := paths i v hv
      have ha1' := e _ _ ha
      have E0' := kE.trans e
      have hmx := hm8.ex E0'
      walk_at "sx"
      refine ⟨hmx.ins, m, a, L, ns', rfl, hmx, pr, by omega, ha1', nda, pga, fun t1 G1 n1 g1 ht1 => ?_⟩
      refine ⟨r, L, ns', .ref a, rfl, .inl (.inl (g1 _ _ (E0' _ _ hr8))), by omega, pr, .inr ⟨a, rfl, .inl (.inl (g1 _ _ ha1'))⟩, nda, pga, fun t2 G2 n2 g2 ht2 => ?_⟩
      refine neInts (.inl (.inl (g2 _ _ ht1))) (.inl (.inl ht2)) ?_
      rw [show ef L ns' = trf ns' L from ef_vis _ _, decide_eq_true rfl]
      walk_at "sx"
      have g12 := g1.trans g2
      refine ⟨g, G, rfl, .inl (.inl (g12 _ _ (E0' _ _ hg8))), by omega, plg, fun x2 G3 n3 g3 hx2 => ?_⟩
      walk_at "sx"
      refine ⟨f, F, rfl, .inl (.inl (g3 _ _ (g12 _ _ (E0' _ _ hf8)))), by omega, plf, fun x1 G4 n4 g4 hx1 => ?_⟩
      walk_at "sx"
      have g14 := (g12.trans g3).trans g4
      refine ⟨hx1.ins, x1, a, F, ns', rfl, hx1, plf, by omega, g14 _ _ ha1', nda, pga, fun t3 G5 n5 g5 ht3 => ?_⟩
      have ok3 := ef_ok nda pga plf
      have hx25 := (hx2.ex g4).ex g5
      refine ⟨hx25.ins, x2, t3, G, ef F ns', rfl, hx25, plg, by omega, ht3, ok3.1, ok3.2, fun t4 G6 n6 g6 ht4 => ?_⟩
      have g16 := (g14.trans g5).trans g6
      have hm6' := hmx.ex g16
      refine ⟨hm6'.ins, m, a, L, ns', rfl, hm6', pr, by omega, g16 _ _ ha1', nda, pga, fun t5 G7 n7 g7 ht5 => ?_⟩
      refine neInts (.inl (.inl (g7 _ _ ht4))) (.inl (.inl ht5)) ?_
      rw [← ef_app, hfg, decide_eq_true rfl]
      walk_at "sx"
      exact e.trans (g16.trans g7)
    obtain ⟨j8, rfl, e9⟩ := hC
    have hr9 := e9 _ _ hr8
    have hf9 := e9 _ _ hf8
    have hg9 := e9 _ _ hg8
    have hm9 := hm8.ex e9
    have b9 := b8.ex e9
    have fx9 := fx8.trans (Fx.of e9)
    clear hp8 hr8 hf8 hg8 hm8 b8 fx8 e9
    refine seq_cut (fun σ' H' => ∃ w S, σ' = [some (.ref s), some (.ref b), some (.ref p), some (.ref r), some (.ref m), some (.int q), some (.ref l), some (.ref D), j8, some (.ref w), none, some (.ref f), some (.ref g), none] ∧ Fx b H9 H' ∧ w ≠ b ∧ H' w = some (.lst ((S : List Int).map V.int)) ∧ Short L S) (fun N hN => ?_) (fun σ10 H10 hC => ?_)
    · walk_at "sx"
      refine ⟨.ref m, rfl, .inl ⟨m, L, rfl, hm9, pr, fun G1 g1 => ?_⟩⟩
      have hfac : fac (frL L).length < 2 ^ 400 := fac_lt (by have := frl_le L; omega)
      have hpos := fac_pos (frL L).length
      refine ⟨b, _, _, rfl, Int.ofNat_lt.mpr hpos, ?_, b9.ex g1, by omega, fun t G2 t0 t1 f2 b2 => ?_⟩
      · have h1 : ((fac (frL L).length : Nat) : Int) ≤ ((2 ^ 400 : Nat) : Int) := Int.ofNat_le.mpr (Nat.le_of_lt hfac)
        exact Int.le_trans h1 (by decide +kernel)
      have t1' : t < ((fac (frL L).length : Nat) : Int) := t1
      have hm2 := (hm9.ex g1).fxb (b9.ex g1) f2
      have hin : inR 0 ((fac (frL L).length : Nat) - 1) (.int t) = true := by
        show (decide (0 ≤ t) && decide (t ≤ _)) = true
        rw [decide_eq_true t0, decide_eq_true (by omega)]
        rfl
      refine ⟨.ref m, .int t, rfl, fun H' _ => .int t, .inl ⟨m, L, rfl, hm2, pr, fun _ w S G3 nw g3 hw sh => ?_, fun c => by rw [hin] at c; cases c⟩⟩
      exact hN _ _ ⟨w, S, rfl, ((Fx.of g1).trans f2).trans (Fx.of g3), b2.apart nw, hw, sh⟩
    obtain ⟨w, S, rfl, f10, nwb, hw10, sh⟩ := hC
    have hr10 := f10 _ _ nrb hr9
    have hf10 := f10 _ _ nfb hf9
    have hg10 := f10 _ _ ngb hg9
    have hm10 := hm9.fxb b9 f10
    have fx10 := fx9.trans f10
    clear hr9 hf9 hg9 hm9 b9 fx9 f10
    have lS : S.length ≤ 100 := by
      have := few_len pr
      have := sh.len
      omega
    have hdS : S.head? = L.head? := head_of sh.hd sh.nil
    have nxS : ∀ x, nx S x = nx L x := nx_of_exs sh.pg pr sh.ex
    have firS : firstV L = firstV S := by
      cases L with
      | nil => rw [sh.nil.mpr rfl]
      | cons x xs => cases S with
        | nil => cases hdS
        | cons y ys => cases hdS; rfl
    have efS : ∀ P, ef S P = ef L P := ef_congr hdS nxS
    refine seq_cut (fun σ' H' => σ' = [some (.ref s), some (.ref b), some (.ref p), some (.ref r), some (.ref m), some (.int q), some (.ref l), some (.ref D), j8, some (.ref w), none, some (.ref f), some (.ref g), none] ∧ Ex H10 H') (fun N hN => ?_) (fun σ11 H11 hC => ?_)
    · walk_at "sx"
      refine lenL (.inl (.inl hw10)) ?_
      rw [List.length_map]
      refine ⟨.ref m, rfl, .inl ⟨m, L, rfl, hm10, pr, fun G1 g1 => ?_⟩⟩
      walk_at "sx"
      rw [sh.len]
      walk_at "sx"
      refine lenL (.inl (.inl (g1 _ _ hw10))) ?_
      refine lenL (.inl (.inl (g1 _ _ hr10))) ?_
      rw [List.length_map, List.length_map]
      walk_at "sx"
      rw [if_neg (by have := few_len pr; have := sh.len; omega)]
      refine ⟨r, w, L, S, rfl, .inl (.inl (g1 _ _ hr10)), .inl (.inl (g1 _ _ hw10)), by omega, by omega, pr, sh.pg, fun G2 g2 => ?_⟩
      rw [decide_eq_true ⟨firS, sh.ex.symm⟩]
      walk_at "sx"
      exact hN _ _ ⟨rfl, g1.trans g2⟩
    obtain ⟨rfl, e11⟩ := hC
    have hr11 := e11 _ _ hr10
    have hf11 := e11 _ _ hf10
    have hg11 := e11 _ _ hg10
    have hw11 := e11 _ _ hw10
    have hm11 := hm10.ex e11
    have fx11 := fx10.trans (Fx.of e11)
    clear hr10 hf10 hg10 hw10 hm10 fx10 e11
    refine seq_cut (fun σ' H' => ∃ u rs, σ' = [some (.ref s), some (.ref b), some (.ref p), some (.ref r), some (.ref m), some (.int q), some (.ref l), some (.ref D), j8, some (.ref w), some (.ref u), some (.ref f), some (.ref g), none] ∧ Ex H11 H' ∧ H' u = some (.lst ((rs : List Addr).map V.ref)) ∧ rs.length = S.length ∧ ∀ (i : Nat) r, rs[i]? = some r → H' r = some (.lst ((trl (S.take (i + 1))).map V.int))) (fun N hN => ?_) (fun σ12 H12 hC => ?_)
    · walk_at "sx"
      refine ⟨w, S, rfl, .inl (.inl hw11), by omega, sh.pg, fun rs G1 lrs g1 hrs u nu => ?_⟩
      have gu := Ex.new nu (o := .lst (rs.map V.ref))
      exact hN _ _ ⟨u, rs, rfl, g1.trans gu, upd_same, lrs, fun i r h => gu _ _ (hrs i r h).2⟩
    obtain ⟨u, rs, rfl, e12, hu12, lrs, hrs12⟩ := hC
    have hr12 := e12 _ _ hr11
    have hf12 := e12 _ _ hf11
    have hg12 := e12 _ _ hg11
    have hw12 := e12 _ _ hw11
    have hm12 := hm11.ex e12
    have fx12 := fx11.trans (Fx.of e12)
    clear hr11 hf11 hg11 hw11 hm11 fx11 e12
    refine seq_cut (fun σ' H' => σ' = [some (.ref s), some (.ref b), some (.ref p), some (.ref r), some (.ref m), some (.int q), some (.ref l), some (.ref D), j8, some (.ref w), some (.ref u), some (.ref f), some (.ref g), none] ∧ Ex H12 H') (fun N hN => ?_) (fun σ13 H13 hC => ?_)
    · walk_at "sx"
      refine ⟨sz_ok (by omega), fun z nz1 => ?_⟩
      have ez := Ex.new nz1 (o := .lst [])
      have due : ∀ Hx, Ex H12 Hx → Dp K Hx (.ref u) (dLL ((List.range S.length).map fun i => trl (S.take (i + 1)))) := fun Hx ex => by
        refine .lst (.inl (.inl (ex _ _ hu12))) (dp_ll (by rw [List.length_map, List.length_range, lrs]) fun i p' l' hp' hl' => ?_)
        have hi := (List.getElem?_eq_some_iff.mp hl').1
        rw [List.length_map, List.length_range] at hi
        rw [List.getElem?_map, List.getElem?_range hi] at hl'
        cases hl'
        exact .inl (.inl (ex _ _ (hrs12 i p' hp')))
      refine neLL (bs := []) (due _ ez) (.lst (.inl (.inl upd_same)) .nil) ?_
      have fin : ∀ H13, Ex H12 H13 → spVisOf K [V.ref u] H13 (fun x H1 => rNeD K x (V.ref w) H1 fun x H' => ∃ k, x = V.bl k ∧ if k = true then Q (V.bl false) H' else N [some (.ref s), some (.ref b), some (.ref p), some (.ref r), some (.ref m), some (.int q), some (.ref l), some (.ref D), j8, some (.ref w), some (.ref u), some (.ref f), some (.ref g), none] H') E0 := fun H13 e13 => by
        refine ⟨u, rs, S, rfl, e13 _ _ hu12, lrs, by omega, sh.pg, fun i r h => e13 _ _ (hrs12 i r h), fun x2 H14 n2 e14 hx2 => ?_⟩
        refine neInts (.inl (.inl hx2)) (.inl (.inl (e14 _ _ (e13 _ _ hw12)))) ?_
        rw [decide_eq_true rfl]
        exact ⟨_, rfl, hN _ _ ⟨rfl, e13.trans e14⟩⟩
      by_cases c0 : S = []
      · rw [decide_eq_true (by rw [c0]; rfl)]
        walk_at "sx"
        exact fin _ ez
      · have ls := List.length_pos_iff.mpr c0
        rw [decide_eq_false (fun h => by have := congrArg List.length h; rw [List.length_map, List.length_range, List.length_nil] at this; omega)]
        walk_at "sx"
        obtain ⟨la, hla⟩ : ∃ la, rs[S.length - 1]? = some la := ⟨_, List.getElem?_eq_getElem (by omega)⟩
        have hlv := ez _ _ (hrs12 _ _ hla)
        rw [show S.length - 1 + 1 = S.length by omega, List.take_of_length_le (Nat.le_refl _)] at hlv
        refine ixL (.inl (.inl (ez _ _ hu12))) (v := .ref la) (BC.atI_last (by rw [List.length_map, lrs, List.getElem?_map, hla]; rfl)) ?_
        refine ⟨r, L, [], .non, rfl, .inl (.inl (ez _ _ hr12)), by omega, pr, .inl ⟨rfl, rfl⟩, List.nodup_nil, pg_nil _, fun t2 G2 n2 g2 ht2 => ?_⟩
        refine neInts (.inl (.inl (g2 _ _ hlv))) (.inl (.inl ht2)) ?_
        rw [show trl S = trf [] L from by rw [show trl S = ef S [] from (ef_vis _ _).symm, efS, ef_vis]; rfl, decide_eq_true rfl]
        walk_at "sx"
        exact fin _ (ez.trans g2)
    obtain ⟨rfl, e13⟩ := hC
    have hr13 := e13 _ _ hr12
    have hf13 := e13 _ _ hf12
    have hg13 := e13 _ _ hg12
    have hw13 := e13 _ _ hw12
    have hm13 := hm12.ex e13
    have fx13 := fx12.trans (Fx.of e13)
    clear hr12 hf12 hg12 hw12 hm12 fx12 e13 hu12 hrs12
    have appLS : exs (L ++ S) = exs L := exs_app nxS
    have appSL : exs (S ++ L) = exs L := (exs_app fun x => (nxS x).symm).trans sh.ex
    refine seq_cut (fun σ' H' => σ' = [some (.ref s), some (.ref b), some (.ref p), some (.ref r), some (.ref m), some (.int q), some (.ref l), some (.ref D), j8, some (.ref w), some (.ref u), some (.ref f), some (.ref g), none] ∧ Ex H13 H') (fun N hN => ?_) (fun σ14 H14 hC => ?_)
    · walk_at "sx"
      refine ⟨w, S, rfl, .inl (.inl hw13), by omega, sh.pg, fun x1 G1 n1 g1 hx1 => ?_⟩
      refine addE (hm13.ex g1) hx1 pr sh.pg fun x3 G3 n3 g3 hx3 => ?_
      rw [appLS, first_app hdS.symm] at hx3
      refine eqEff hx3 pr (begin_first _) (hm13.ex (g1.trans g3)) pr (begin_first _) ?_
      rw [decide_eq_true ⟨rfl, rfl⟩]
      walk_at "sx"
      have g13 := g1.trans g3
      refine catL (g13 _ _ hw13) (g13 _ _ hr13) (sz_ok (by rw [List.length_map, List.length_map]; omega)) fun y ny => ?_
      have gy := Ex.new ny (o := .lst (S.map V.int ++ L.map V.int))
      refine ⟨y, S ++ L, rfl, .inl (.inl (by rw [upd_same, List.map_append])), by rw [List.length_append]; omega, pg_app sh.pg pr, fun x4 G4 n4 g4 hx4 => ?_⟩
      rw [appSL, first_app hdS, ← firS] at hx4
      refine eqEff hx4 pr (begin_first _) (hm13.ex ((g13.trans gy).trans g4)) pr (begin_first _) ?_
      rw [decide_eq_true ⟨rfl, rfl⟩]
      walk_at "sx"
      exact hN _ _ ⟨rfl, (g13.trans gy).trans g4⟩
    obtain ⟨rfl, e14⟩ := hC
    have hf14 := e14 _ _ hf13
    have hg14 := e14 _ _ hg13
    have fx14 := fx13.trans (Fx.of e14)
    clear hr13 hf13 hg13 hw13 hm13 fx13 e14
    refine seq_asg (fun v H' => Ex H14 H' ∧ ((v = .non ∧ firstV F = firstV G ∧ exs F = exs G) ∨ ∃ l t, v = .ref l ∧ H' l = some (.lst ((t : List Int).map V.int)) ∧ t.Nodup ∧ Pg 40 t ∧ ef F t ≠ ef G t)) (fun R hR => ?_) (fun v H15 hC => ?_)
    · walk_at "sx"
      exact ⟨f, g, F, G, rfl, .inl (.inl hf14), .inl (.inl hg14), by omega, by omega, plf, plg, fun v H' e c => hR _ _ ⟨e, c⟩⟩
    obtain ⟨e15, hC⟩ := hC
    have hf15 := e15 _ _ hf14
    have hg15 := e15 _ _ hg14
    have fx15 := fx14.trans (Fx.of e15)
    rcases hC with ⟨rfl, c1, c2⟩ | ⟨lt, t, rfl, ht, ndt, pt, ne⟩
    · walk_at "sx"
      refine ⟨f, g, F, G, rfl, .inl (.inl hf15), .inl (.inl hg15), by omega, by omega, plf, plg, fun G2 g2 => ?_⟩
      rw [decide_eq_true ⟨c1, c2⟩]
      exact k _ (fx15.trans (Fx.of g2))
    · walk_at "sx"
      refine ⟨f, F, t, .ref lt, rfl, .inl (.inl hf15), by omega, plf, .inr ⟨lt, rfl, .inl (.inl ht)⟩, ndt, pt, fun t1 G1 n1 g1 ht1 => ?_⟩
      refine ⟨g, G, t, .ref lt, rfl, .inl (.inl (g1 _ _ hg15)), by omega, plg, .inr ⟨lt, rfl, .inl (.inl (g1 _ _ ht))⟩, ndt, pt, fun t2 G2 n2 g2 ht2 => ?_⟩
      refine neInts (.inl (.inl (g2 _ _ ht1))) (.inl (.inl ht2)) ?_
      rw [show trf t F = ef F t from (ef_vis _ _).symm, show trf t G = ef G t from (ef_vis _ _).symm, decide_eq_false ne]
      exact k _ (fx15.trans (Fx.of (g1.trans g2)))
end
section
variable {P : Program} {w : World} {K : PySem.W.Frag} {mg : Str → Option Value} {base : Heap}
def spLaw (K : PySem.W.Frag) : Sp := fun vs H Q _ => ∃ (s : Addr) (ns : List Int), vs = [.ref s] ∧ SqL K H s (ns.map V.int) ∧ ns.length ≤ 63 ∧ ∀ H', Q (.bl true) H'
def JLw (H2 : Hp) (s : Addr) (i : Nat) (σ' : L2.St) (H' : Hp) : Prop := ∃ j1 j2, σ' = [some (.ref s), j1, j2] ∧ Ex H2 H'
theorem ok_law (T : Txt K mg) : FnOk P w K mg base CX0 11 T.f_law T.fd_law ["_law_script"] (spLaw K) := by
  refine T.F_law.ok sc_law (fun vs H Q E h => ?_) (fun cdv A outer s H vs Q E hr h => ?_)
  · obtain ⟨s, ns, rfl, _⟩ := h
    rfl
  · obtain ⟨s, ns, rfl, hA, hl, k⟩ := h
    apply Exists.intro
    apply And.intro
    · apply pss_cons
      · apply ps_for PassesOwn.never rfl
        · exact (k_pi_enum (K := K) rfl (by rfl) T.n_enumerate (pa_cons (pe_slice (k_sl_list (K := K) rfl) (pe_call (ok_law_cells T) (hr.mono (by decide)) (by rfl) T.m_law_cells T.F_law_cells.kp T.b_law_cells .nil pass0 (pa_cons (pv 0) pa_nil)) po_none (po_some pe_int)) pa_nil))
        · exact (k_tup (K := K) (n := 2) rfl rfl (pgs_cons (pg_name (i := 1) sc_law.nd rfl (.inl rfl)) (pgs_cons (pg_name (i := 2) sc_law.nd rfl (.inl rfl)) pgs_nil)))
        · apply pss_one
          apply ps_if
          · exact (pt_not (pt_val (pe_call (ok_law_right T) (hr.mono (by decide)) (by rfl) T.m_law_right T.F_law_right.kp T.b_law_right .nil pass0 (pa_cons (pv 0) (pa_cons (pe_call (ok_law_bag T) (hr.mono (by decide)) (by rfl) T.m_law_bag T.F_law_bag.kp T.b_law_bag .nil pass0 (pa_cons (pv 2) (pa_cons (pv 1) pa_nil))) pa_nil)))))
          · apply pss_one
            exact (ps_ret pe_bl)
          · exact pss_nil
      apply pss_one
      exact (ps_ret pe_bl)
    walk_at "sx"
    refine ⟨s, ns, rfl, hA, hl, fun p ms H1 np e1 hp lm => ?_⟩
    refine slL (.inl (.inl hp)) fun y ny => ?_
    rw [show (6 : Int) = ((6 : Nat) : Int) from rfl, cut_take, ← List.map_take]
    have ey := Ex.new ny (o := .lst ((ms.take 6).map V.int))
    have hl6 : (ms.take 6).length ≤ 6 := by rw [List.length_take]; omega
    refine ⟨_, rfl, _, .inl (.inl upd_same), ?_⟩
    have hy : (upd H1 y (.lst ((ms.take 6).map V.int))) y = some (.lst ((ms.take 6).map V.int)) := upd_same
    have E := e1.trans ey
    generalize (upd H1 y (.lst ((ms.take 6).map V.int))) = H2 at E hy ⊢
    refine lg_enum (xs := (ms.take 6).map V.int) (JLw H2 s) ⟨none, none, rfl, Ex.refl H2⟩ (fun i σ' H' hi hP => by obtain ⟨_, _, _, e⟩ := hP; exact .inl (.inl (e _ _ hy))) (fun i x σ' H' T' hx hP nT => ?_) (fun σ' H' hP => ?_)
    · obtain ⟨j1, j2, rfl, e⟩ := hP
      obtain ⟨n, hn, rfl⟩ := ints_at hx
      have hi := (List.getElem?_eq_some_iff.mp hn).1
      have eT := Ex.new nT (o := .tup [V.int (i : Nat), V.int n])
      refine g_two upd_same ?_
      walk_at "sx"
      refine ⟨n, i, rfl, by omega, fun q H3 nq e3 hb => ?_⟩
      have E3 := (e.trans eT).trans e3
      have E4 : ∀ H4, Fx q H3 H4 → Ex H2 H4 := fun H4 f4 => (e.trans eT).trans (((Fx.of e3).trans f4).ex nq)
      refine ⟨s, q, ns, 0, rfl, fun H4 f4 => ex_l (E.trans (E4 H4 f4)) hA, hl, hb, by omega, fun H4 f4 => ?_⟩
      walk_at "sx"
      exact ⟨_, _, rfl, E4 H4 f4⟩
    · obtain ⟨j1, j2, rfl, e⟩ := hP
      walk_at "sx"
      exact k _
end
end LW

set_option Elab.async false
set_option linter.all false
set_option maxRecDepth 100000
set_option maxHeartbeats 4000000
namespace LW
open PySem PySem.Spec PyProof.Rows L2 BC Evl TR EF L2.DX
theorem all_mk {l : PySem.W.OpenLaw} {w : World} {K : PySem.W.Frag} {h : Heap} {mg : Str → Option Value} {fa : Addr} (X : K.In h) (G : h.Ns mainGlobals mg) (hfa : mg "law" = some (.ref fa))
    {X0 : Addr} {cdX0 : ClassData}
    {X1 : Addr} {cdX1 : ClassData}
    {X2 : Addr} {cdX2 : ClassData}
    {X3 : Addr} {cdX3 : ClassData}
    {X4 : Addr} {cdX4 : ClassData}
    {C0 : Addr}
    {f0 : Addr} {od0 an0 : Option Addr} {sl0 : Array (Option Value)} {oc0 kV0 dc0 pm0 cd0 ct0 : Value}
    {f1 : Addr} {od1 an1 : Option Addr} {sl1 : Array (Option Value)} {oc1 kV1 dc1 pm1 cd1 ct1 : Value}
    {f2 : Addr} {od2 an2 : Option Addr} {sl2 : Array (Option Value)} {oc2 kV2 dc2 pm2 cd2 ct2 : Value}
    {f3 : Addr} {od3 an3 : Option Addr} {sl3 : Array (Option Value)} {oc3 kV3 dc3 pm3 cd3 ct3 : Value}
    {f4 : Addr} {od4 an4 : Option Addr} {sl4 : Array (Option Value)} {oc4 kV4 dc4 pm4 cd4 ct4 : Value}
    {f5 : Addr} {od5 an5 : Option Addr} {sl5 : Array (Option Value)} {oc5 kV5 dc5 pm5 cd5 ct5 : Value}
    {f6 : Addr} {od6 an6 : Option Addr} {sl6 : Array (Option Value)} {oc6 kV6 dc6 pm6 cd6 ct6 : Value}
    {f7 : Addr} {od7 an7 : Option Addr} {sl7 : Array (Option Value)} {oc7 kV7 dc7 pm7 cd7 ct7 : Value}
    {f8 kD8 : Addr} {od8 an8 : Option Addr} {sl8 : Array (Option Value)} {oc8 dc8 pm8 cd8 ct8 : Value}
    {f9 : Addr} {od9 an9 : Option Addr} {sl9 : Array (Option Value)} {oc9 kV9 dc9 pm9 cd9 ct9 : Value}
    {f10 : Addr} {od10 an10 : Option Addr} {sl10 : Array (Option Value)} {oc10 kV10 dc10 pm10 cd10 ct10 : Value}
    {f11 : Addr} {od11 an11 : Option Addr} {sl11 : Array (Option Value)} {oc11 kV11 dc11 pm11 cd11 ct11 : Value}
    {f12 : Addr} {od12 an12 : Option Addr} {sl12 : Array (Option Value)} {oc12 kV12 dc12 pm12 cd12 ct12 : Value}
    {f13 : Addr} {od13 an13 : Option Addr} {sl13 : Array (Option Value)} {oc13 kV13 dc13 pm13 cd13 ct13 : Value}
    {f14 : Addr} {od14 an14 : Option Addr} {sl14 : Array (Option Value)} {oc14 kV14 dc14 pm14 cd14 ct14 : Value}
    {f15 : Addr} {od15 an15 : Option Addr} {sl15 : Array (Option Value)} {oc15 kV15 dc15 pm15 cd15 ct15 : Value}
    {f16 : Addr} {od16 an16 : Option Addr} {sl16 : Array (Option Value)} {oc16 kV16 dc16 pm16 cd16 ct16 : Value}
    {f17 : Addr} {od17 an17 : Option Addr} {sl17 : Array (Option Value)} {oc17 kV17 dc17 pm17 cd17 ct17 : Value}
    {f18 : Addr} {od18 an18 : Option Addr} {sl18 : Array (Option Value)} {oc18 kV18 dc18 pm18 cd18 ct18 : Value}
    {f19 : Addr} {od19 an19 : Option Addr} {sl19 : Array (Option Value)} {oc19 kV19 dc19 pm19 cd19 ct19 : Value}
    {f20 : Addr} {od20 an20 : Option Addr} {sl20 : Array (Option Value)} {oc20 kV20 dc20 pm20 cd20 ct20 : Value}
    {f21 : Addr} {od21 an21 : Option Addr} {sl21 : Array (Option Value)} {oc21 kV21 dc21 pm21 cd21 ct21 : Value}
    {f22 : Addr} {od22 an22 : Option Addr} {sl22 : Array (Option Value)} {oc22 kV22 dc22 pm22 cd22 ct22 : Value}
    {f23 : Addr} {od23 an23 : Option Addr} {sl23 : Array (Option Value)} {oc23 kV23 dc23 pm23 cd23 ct23 : Value}
    {f24 : Addr} {od24 an24 : Option Addr} {sl24 : Array (Option Value)} {oc24 kV24 dc24 pm24 cd24 ct24 : Value}
    {f25 : Addr} {od25 an25 : Option Addr} {sl25 : Array (Option Value)} {oc25 kV25 dc25 pm25 cd25 ct25 : Value}
    {f26 : Addr} {od26 an26 : Option Addr} {sl26 : Array (Option Value)} {oc26 kV26 dc26 pm26 cd26 ct26 : Value}
    {f27 : Addr} {od27 an27 : Option Addr} {sl27 : Array (Option Value)} {oc27 kV27 dc27 pm27 cd27 ct27 : Value}
    {f28 : Addr} {od28 an28 : Option Addr} {sl28 : Array (Option Value)} {oc28 kV28 dc28 pm28 cd28 ct28 : Value}
    {f29 : Addr} {od29 an29 : Option Addr} {sl29 : Array (Option Value)} {oc29 kV29 dc29 pm29 cd29 ct29 : Value}
    {f30 : Addr} {od30 an30 : Option Addr} {sl30 : Array (Option Value)} {oc30 kV30 dc30 pm30 cd30 ct30 : Value}
    {f31 : Addr} {od31 an31 : Option Addr} {sl31 : Array (Option Value)} {oc31 kV31 dc31 pm31 cd31 ct31 : Value}
    {f32 : Addr} {od32 an32 : Option Addr} {sl32 : Array (Option Value)} {oc32 kV32 dc32 pm32 cd32 ct32 : Value}
    {f33 : Addr} {od33 an33 : Option Addr} {sl33 : Array (Option Value)} {oc33 kV33 dc33 pm33 cd33 ct33 : Value}
    {f34 : Addr} {od34 an34 : Option Addr} {sl34 : Array (Option Value)} {oc34 kV34 dc34 pm34 cd34 ct34 : Value}
    {f35 : Addr} {od35 an35 : Option Addr} {sl35 : Array (Option Value)} {oc35 kV35 dc35 pm35 cd35 ct35 : Value}
    {f36 : Addr} {od36 an36 : Option Addr} {sl36 : Array (Option Value)} {oc36 kV36 dc36 pm36 cd36 ct36 : Value}
    {p36 : Addr} {rest36 : List Value}
    {f37 : Addr} {od37 an37 : Option Addr} {sl37 : Array (Option Value)} {oc37 kV37 dc37 pm37 cd37 ct37 : Value}
    {p37 : Addr} {rest37 : List Value}
    {f38 : Addr} {od38 an38 : Option Addr} {sl38 : Array (Option Value)} {oc38 kV38 dc38 pm38 cd38 ct38 : Value}
    {p38 : Addr} {rest38 : List Value}
    {f39 : Addr} {od39 an39 : Option Addr} {sl39 : Array (Option Value)} {oc39 kV39 dc39 pm39 cd39 ct39 : Value}
    {f40 : Addr} {od40 an40 : Option Addr} {sl40 : Array (Option Value)} {oc40 kV40 dc40 pm40 cd40 ct40 : Value}
    {f41 : Addr} {od41 an41 : Option Addr} {sl41 : Array (Option Value)} {oc41 kV41 dc41 pm41 cd41 ct41 : Value}
    {f42 : Addr} {od42 an42 : Option Addr} {sl42 : Array (Option Value)} {oc42 kV42 dc42 pm42 cd42 ct42 : Value}
    {f43 : Addr} {od43 an43 : Option Addr} {sl43 : Array (Option Value)} {oc43 kV43 dc43 pm43 cd43 ct43 : Value}
    {tt_MOST_PAGE : Tok}
    {tt_MOST_PAGES : Tok}
    {tt_MOST_TRAILS : Tok}
    {tt_MOST_VISITS : Tok}
    (xn : PySem.W.specialIn K (.builtin "object.__class__") "__get__" = some (some (.builtin "getset_descriptor.__get__"))) (xt : PySem.W.takesIn K (.builtin "object.__class__") = some true)
    (ax0 : PySem.W.nsIn K mainGlobals "BreadcrumbsError" = some (some (.ref X0)))
    (kx0 : PySem.W.keepIn K (.ref X0) = true)
    (xx0 : PySem.W.excIn K X0 [.type "ValueError", .type "Exception", .type "BaseException", .type "object"] "ValueError.__new__" = true)
    (gx0 : PySem.W.findIn K (.ref X0) "__getattribute__" = some (some (.builtin "BaseException.__getattribute__")))
    (hx0 : PySem.W.findIn K (.ref X0) "__getattr__" = some none)
    (bx0 : PySem.W.subIn K (.ref X0) (.type "BaseException") = some true)
    (dx0 : PySem.W.hasDictIn K X0 = true)
    (cx0 : PySem.W.findIn K (.ref X0) "__class__" = some (some (.builtin "object.__class__")))
    (mx0 : PySem.W.mroIn K X0 (.type "object") = some true)
    (tx0 : PySem.W.typeIn K (.ref X0) = some (.type "type"))
    (lx0 : PySem.W.clsIn K X0 = some cdX0)
    (rx0 : cdX0.mro = [X0].map Value.ref ++ HandSPX.veTail)
    (ax1 : PySem.W.nsIn K mainGlobals "InvalidEffectError" = some (some (.ref X1)))
    (kx1 : PySem.W.keepIn K (.ref X1) = true)
    (xx1 : PySem.W.excIn K X1 [.type "ValueError", .type "Exception", .type "BaseException", .type "object"] "ValueError.__new__" = true)
    (gx1 : PySem.W.findIn K (.ref X1) "__getattribute__" = some (some (.builtin "BaseException.__getattribute__")))
    (hx1 : PySem.W.findIn K (.ref X1) "__getattr__" = some none)
    (bx1 : PySem.W.subIn K (.ref X1) (.type "BaseException") = some true)
    (dx1 : PySem.W.hasDictIn K X1 = true)
    (cx1 : PySem.W.findIn K (.ref X1) "__class__" = some (some (.builtin "object.__class__")))
    (mx1 : PySem.W.mroIn K X1 (.type "object") = some true)
    (tx1 : PySem.W.typeIn K (.ref X1) = some (.type "type"))
    (lx1 : PySem.W.clsIn K X1 = some cdX1)
    (rx1 : cdX1.mro = [X1, X0].map Value.ref ++ HandSPX.veTail)
    (ax2 : PySem.W.nsIn K mainGlobals "InvalidNumberError" = some (some (.ref X2)))
    (kx2 : PySem.W.keepIn K (.ref X2) = true)
    (xx2 : PySem.W.excIn K X2 [.type "ValueError", .type "Exception", .type "BaseException", .type "object"] "ValueError.__new__" = true)
    (gx2 : PySem.W.findIn K (.ref X2) "__getattribute__" = some (some (.builtin "BaseException.__getattribute__")))
    (hx2 : PySem.W.findIn K (.ref X2) "__getattr__" = some none)
    (bx2 : PySem.W.subIn K (.ref X2) (.type "BaseException") = some true)
    (dx2 : PySem.W.hasDictIn K X2 = true)
    (cx2 : PySem.W.findIn K (.ref X2) "__class__" = some (some (.builtin "object.__class__")))
    (mx2 : PySem.W.mroIn K X2 (.type "object") = some true)
    (tx2 : PySem.W.typeIn K (.ref X2) = some (.type "type"))
    (lx2 : PySem.W.clsIn K X2 = some cdX2)
    (rx2 : cdX2.mro = [X2, X0].map Value.ref ++ HandSPX.veTail)
    (ax3 : PySem.W.nsIn K mainGlobals "InvalidTrailError" = some (some (.ref X3)))
    (kx3 : PySem.W.keepIn K (.ref X3) = true)
    (xx3 : PySem.W.excIn K X3 [.type "ValueError", .type "Exception", .type "BaseException", .type "object"] "ValueError.__new__" = true)
    (gx3 : PySem.W.findIn K (.ref X3) "__getattribute__" = some (some (.builtin "BaseException.__getattribute__")))
    (hx3 : PySem.W.findIn K (.ref X3) "__getattr__" = some none)
    (bx3 : PySem.W.subIn K (.ref X3) (.type "BaseException") = some true)
    (dx3 : PySem.W.hasDictIn K X3 = true)
    (cx3 : PySem.W.findIn K (.ref X3) "__class__" = some (some (.builtin "object.__class__")))
    (mx3 : PySem.W.mroIn K X3 (.type "object") = some true)
    (tx3 : PySem.W.typeIn K (.ref X3) = some (.type "type"))
    (lx3 : PySem.W.clsIn K X3 = some cdX3)
    (rx3 : cdX3.mro = [X3, X0].map Value.ref ++ HandSPX.veTail)
    (ax4 : PySem.W.nsIn K mainGlobals "InvalidVisitsError" = some (some (.ref X4)))
    (kx4 : PySem.W.keepIn K (.ref X4) = true)
    (xx4 : PySem.W.excIn K X4 [.type "ValueError", .type "Exception", .type "BaseException", .type "object"] "ValueError.__new__" = true)
    (gx4 : PySem.W.findIn K (.ref X4) "__getattribute__" = some (some (.builtin "BaseException.__getattribute__")))
    (hx4 : PySem.W.findIn K (.ref X4) "__getattr__" = some none)
    (bx4 : PySem.W.subIn K (.ref X4) (.type "BaseException") = some true)
    (dx4 : PySem.W.hasDictIn K X4 = true)
    (cx4 : PySem.W.findIn K (.ref X4) "__class__" = some (some (.builtin "object.__class__")))
    (mx4 : PySem.W.mroIn K X4 (.type "object") = some true)
    (tx4 : PySem.W.typeIn K (.ref X4) = some (.type "type"))
    (lx4 : PySem.W.clsIn K X4 = some cdX4)
    (rx4 : cdX4.mro = [X4, X0].map Value.ref ++ HandSPX.veTail)
    (ndx : [X0, X1, X2, X3, X4].Nodup)
    (aC0 : PySem.W.nsIn K mainGlobals "Effect" = some (some (.ref C0))) (pg0 : PySem.W.plainGet K C0 Str.empty = true) (hd0 : PySem.W.hasDictIn K C0 = true) (po0 : PySem.W.plainOver K C0 = true) (sa0 : PySem.W.findIn K (.ref C0) "__setattr__" = some (some (.builtin "object.__setattr__")))
    (ka0 : PySem.W.findIn K (.ref C0) "__class__" = some (some (.builtin "object.__class__")))
    (kn0 : PySem.W.specialIn K (.builtin "object.__class__") "__get__" = some (some (.builtin "getset_descriptor.__get__")))
    (kt0 : PySem.W.takesIn K (.builtin "object.__class__") = some true)
    (km0 : PySem.W.mroIn K C0 (.type "object") = some true)
    (ke0 : PySem.W.isClsIn K C0 = true)
    (kf0 : PySem.W.typeIn K (.ref C0) = some (.type "type"))
    (nf0_list : PySem.W.notFirst K C0 (.type "list") = true)
    (nf0_tuple : PySem.W.notFirst K C0 (.type "tuple") = true)
    (nf0_dict : PySem.W.notFirst K C0 (.type "dict") = true)
    (nf0_int : PySem.W.notFirst K C0 (.type "int") = true)
    (nf0_str : PySem.W.notFirst K C0 (.type "str") = true)
    (nf0_bool : PySem.W.notFirst K C0 (.type "bool") = true)
    (nf0_NoneType : PySem.W.notFirst K C0 (.type "NoneType") = true)
    (sf0 : PySem.W.selfFirst K C0 = true)
    (ob0 : PySem.W.subIn K (.ref C0) (.type "object") = some true)
    (on0 : PySem.W.findIn K (.ref C0) "__ne__" = some (some (.builtin "object.__ne__")))
    (na0_begin_page : PySem.W.findIn K (.ref C0) "begin_page" = some none)
    (na0_pairs : PySem.W.findIn K (.ref C0) "pairs" = some none)
    (na0_exit_of : PySem.W.findIn K (.ref C0) "exit_of" = some none)
    (a0 : PySem.W.nsIn K mainGlobals "is_integer" = some (some (.ref f0))) (l0 : K.lookup f0 = some ⟨oc0, od0, .func (PySem.W.fnOf "is_integer" "is_integer" (defArgs s_is_integer) (defBody s_is_integer) (defScope s_is_integer) .none kV0 dc0 pm0 an0 cd0 ct0), sl0⟩) (c0 : PySem.W.codeIn K cd0 "is_integer" = true) (k0 : PySem.W.keepIn K (.ref f0) = true)
    (a1 : PySem.W.nsIn K mainGlobals "check_number" = some (some (.ref f1))) (l1 : K.lookup f1 = some ⟨oc1, od1, .func (PySem.W.fnOf "check_number" "check_number" (defArgs s_check_number) (defBody s_check_number) (defScope s_check_number) .none kV1 dc1 pm1 an1 cd1 ct1), sl1⟩) (c1 : PySem.W.codeIn K cd1 "check_number" = true) (k1 : PySem.W.keepIn K (.ref f1) = true)
    (a2 : PySem.W.nsIn K mainGlobals "is_page" = some (some (.ref f2))) (l2 : K.lookup f2 = some ⟨oc2, od2, .func (PySem.W.fnOf "is_page" "is_page" (defArgs s_is_page) (defBody s_is_page) (defScope s_is_page) .none kV2 dc2 pm2 an2 cd2 ct2), sl2⟩) (c2 : PySem.W.codeIn K cd2 "is_page" = true) (k2 : PySem.W.keepIn K (.ref f2) = true)
    (a3 : PySem.W.nsIn K mainGlobals "is_visits" = some (some (.ref f3))) (l3 : K.lookup f3 = some ⟨oc3, od3, .func (PySem.W.fnOf "is_visits" "is_visits" (defArgs s_is_visits) (defBody s_is_visits) (defScope s_is_visits) .none kV3 dc3 pm3 an3 cd3 ct3), sl3⟩) (c3 : PySem.W.codeIn K cd3 "is_visits" = true) (k3 : PySem.W.keepIn K (.ref f3) = true)
    (a4 : PySem.W.nsIn K mainGlobals "is_trail" = some (some (.ref f4))) (l4 : K.lookup f4 = some ⟨oc4, od4, .func (PySem.W.fnOf "is_trail" "is_trail" (defArgs s_is_trail) (defBody s_is_trail) (defScope s_is_trail) .none kV4 dc4 pm4 an4 cd4 ct4), sl4⟩) (c4 : PySem.W.codeIn K cd4 "is_trail" = true) (k4 : PySem.W.keepIn K (.ref f4) = true)
    (a5 : PySem.W.nsIn K mainGlobals "check_visits" = some (some (.ref f5))) (l5 : K.lookup f5 = some ⟨oc5, od5, .func (PySem.W.fnOf "check_visits" "check_visits" (defArgs s_check_visits) (defBody s_check_visits) (defScope s_check_visits) .none kV5 dc5 pm5 an5 cd5 ct5), sl5⟩) (c5 : PySem.W.codeIn K cd5 "check_visits" = true) (k5 : PySem.W.keepIn K (.ref f5) = true)
    (a6 : PySem.W.nsIn K mainGlobals "check_trail" = some (some (.ref f6))) (l6 : K.lookup f6 = some ⟨oc6, od6, .func (PySem.W.fnOf "check_trail" "check_trail" (defArgs s_check_trail) (defBody s_check_trail) (defScope s_check_trail) .none kV6 dc6 pm6 an6 cd6 ct6), sl6⟩) (c6 : PySem.W.codeIn K cd6 "check_trail" = true) (k6 : PySem.W.keepIn K (.ref f6) = true)
    (a7 : PySem.W.nsIn K mainGlobals "visited" = some (some (.ref f7))) (l7 : K.lookup f7 = some ⟨oc7, od7, .func (PySem.W.fnOf "visited" "visited" (defArgs s_visited) (defBody s_visited) (defScope s_visited) .none kV7 dc7 pm7 an7 cd7 ct7), sl7⟩) (c7 : PySem.W.codeIn K cd7 "visited" = true) (k7 : PySem.W.keepIn K (.ref f7) = true)
    (a8 : PySem.W.nsIn K mainGlobals "trail_after" = some (some (.ref f8))) (l8 : K.lookup f8 = some ⟨oc8, od8, .func (PySem.W.fnOf "trail_after" "trail_after" (defArgs s_trail_after) (defBody s_trail_after) (defScope s_trail_after) .none (.ref kD8) dc8 pm8 an8 cd8 ct8), sl8⟩) (c8 : PySem.W.codeIn K cd8 "trail_after" = true) (k8 : PySem.W.keepIn K (.ref f8) = true)
    (d8 : PySem.W.nsIn K kD8 "start" = some (some .none))
    (a9 : PySem.W.nsIn K mainGlobals "trails_along" = some (some (.ref f9))) (l9 : K.lookup f9 = some ⟨oc9, od9, .func (PySem.W.fnOf "trails_along" "trails_along" (defArgs s_trails_along) (defBody s_trails_along) (defScope s_trails_along) .none kV9 dc9 pm9 an9 cd9 ct9), sl9⟩) (c9 : PySem.W.codeIn K cd9 "trails_along" = true) (k9 : PySem.W.keepIn K (.ref f9) = true)
    (a10 : PySem.W.nsIn K mainGlobals "visits_of" = some (some (.ref f10))) (l10 : K.lookup f10 = some ⟨oc10, od10, .func (PySem.W.fnOf "visits_of" "visits_of" (defArgs s_visits_of) (defBody s_visits_of) (defScope s_visits_of) .none kV10 dc10 pm10 an10 cd10 ct10), sl10⟩) (c10 : PySem.W.codeIn K cd10 "visits_of" = true) (k10 : PySem.W.keepIn K (.ref f10) = true)
    (a11 : PySem.W.nsIn K mainGlobals "exits_in" = some (some (.ref f11))) (l11 : K.lookup f11 = some ⟨oc11, od11, .func (PySem.W.fnOf "exits_in" "exits_in" (defArgs s_exits_in) (defBody s_exits_in) (defScope s_exits_in) .none kV11 dc11 pm11 an11 cd11 ct11), sl11⟩) (c11 : PySem.W.codeIn K cd11 "exits_in" = true) (k11 : PySem.W.keepIn K (.ref f11) = true)
    (a12 : PySem.W.nsIn K mainGlobals "is_pair" = some (some (.ref f12))) (l12 : K.lookup f12 = some ⟨oc12, od12, .func (PySem.W.fnOf "is_pair" "is_pair" (defArgs s_is_pair) (defBody s_is_pair) (defScope s_is_pair) .none kV12 dc12 pm12 an12 cd12 ct12), sl12⟩) (c12 : PySem.W.codeIn K cd12 "is_pair" = true) (k12 : PySem.W.keepIn K (.ref f12) = true)
    (a13 : PySem.W.nsIn K mainGlobals "leads_to_root" = some (some (.ref f13))) (l13 : K.lookup f13 = some ⟨oc13, od13, .func (PySem.W.fnOf "leads_to_root" "leads_to_root" (defArgs s_leads_to_root) (defBody s_leads_to_root) (defScope s_leads_to_root) .none kV13 dc13 pm13 an13 cd13 ct13), sl13⟩) (c13 : PySem.W.codeIn K cd13 "leads_to_root" = true) (k13 : PySem.W.keepIn K (.ref f13) = true)
    (a14 : PySem.W.nsIn K mainGlobals "are_exits" = some (some (.ref f14))) (l14 : K.lookup f14 = some ⟨oc14, od14, .func (PySem.W.fnOf "are_exits" "are_exits" (defArgs s_are_exits) (defBody s_are_exits) (defScope s_are_exits) .none kV14 dc14 pm14 an14 cd14 ct14), sl14⟩) (c14 : PySem.W.codeIn K cd14 "are_exits" = true) (k14 : PySem.W.keepIn K (.ref f14) = true)
    (a15 : PySem.W.nsIn K mainGlobals "check_effect" = some (some (.ref f15))) (l15 : K.lookup f15 = some ⟨oc15, od15, .func (PySem.W.fnOf "check_effect" "check_effect" (defArgs s_check_effect) (defBody s_check_effect) (defScope s_check_effect) .none kV15 dc15 pm15 an15 cd15 ct15), sl15⟩) (c15 : PySem.W.codeIn K cd15 "check_effect" = true) (k15 : PySem.W.keepIn K (.ref f15) = true)
    (a16 : PySem.W.nsIn K mainGlobals "effect_in" = some (some (.ref f16))) (l16 : K.lookup f16 = some ⟨oc16, od16, .func (PySem.W.fnOf "effect_in" "effect_in" (defArgs s_effect_in) (defBody s_effect_in) (defScope s_effect_in) .none kV16 dc16 pm16 an16 cd16 ct16), sl16⟩) (c16 : PySem.W.codeIn K cd16 "effect_in" = true) (k16 : PySem.W.keepIn K (.ref f16) = true)
    (a17 : PySem.W.nsIn K mainGlobals "effect_of" = some (some (.ref f17))) (l17 : K.lookup f17 = some ⟨oc17, od17, .func (PySem.W.fnOf "effect_of" "effect_of" (defArgs s_effect_of) (defBody s_effect_of) (defScope s_effect_of) .none kV17 dc17 pm17 an17 cd17 ct17), sl17⟩) (c17 : PySem.W.codeIn K cd17 "effect_of" = true) (k17 : PySem.W.keepIn K (.ref f17) = true)
    (a18 : PySem.W.nsIn K mainGlobals "same_effect" = some (some (.ref f18))) (l18 : K.lookup f18 = some ⟨oc18, od18, .func (PySem.W.fnOf "same_effect" "same_effect" (defArgs s_same_effect) (defBody s_same_effect) (defScope s_same_effect) .none kV18 dc18 pm18 an18 cd18 ct18), sl18⟩) (c18 : PySem.W.codeIn K cd18 "same_effect" = true) (k18 : PySem.W.keepIn K (.ref f18) = true)
    (a19 : PySem.W.nsIn K mainGlobals "parting_trail" = some (some (.ref f19))) (l19 : K.lookup f19 = some ⟨oc19, od19, .func (PySem.W.fnOf "parting_trail" "parting_trail" (defArgs s_parting_trail) (defBody s_parting_trail) (defScope s_parting_trail) .none kV19 dc19 pm19 an19 cd19 ct19), sl19⟩) (c19 : PySem.W.codeIn K cd19 "parting_trail" = true) (k19 : PySem.W.keepIn K (.ref f19) = true)
    (a20 : PySem.W.nsIn K mainGlobals "factorial" = some (some (.ref f20))) (l20 : K.lookup f20 = some ⟨oc20, od20, .func (PySem.W.fnOf "factorial" "factorial" (defArgs s_factorial) (defBody s_factorial) (defScope s_factorial) .none kV20 dc20 pm20 an20 cd20 ct20), sl20⟩) (c20 : PySem.W.codeIn K cd20 "factorial" = true) (k20 : PySem.W.keepIn K (.ref f20) = true)
    (a21 : PySem.W.nsIn K mainGlobals "free_leaves" = some (some (.ref f21))) (l21 : K.lookup f21 = some ⟨oc21, od21, .func (PySem.W.fnOf "free_leaves" "free_leaves" (defArgs s_free_leaves) (defBody s_free_leaves) (defScope s_free_leaves) .none kV21 dc21 pm21 an21 cd21 ct21), sl21⟩) (c21 : PySem.W.codeIn K cd21 "free_leaves" = true) (k21 : PySem.W.keepIn K (.ref f21) = true)
    (a22 : PySem.W.nsIn K mainGlobals "fewest_in" = some (some (.ref f22))) (l22 : K.lookup f22 = some ⟨oc22, od22, .func (PySem.W.fnOf "fewest_in" "fewest_in" (defArgs s_fewest_in) (defBody s_fewest_in) (defScope s_fewest_in) .none kV22 dc22 pm22 an22 cd22 ct22), sl22⟩) (c22 : PySem.W.codeIn K cd22 "fewest_in" = true) (k22 : PySem.W.keepIn K (.ref f22) = true)
    (a23 : PySem.W.nsIn K mainGlobals "number_of_lists" = some (some (.ref f23))) (l23 : K.lookup f23 = some ⟨oc23, od23, .func (PySem.W.fnOf "number_of_lists" "number_of_lists" (defArgs s_number_of_lists) (defBody s_number_of_lists) (defScope s_number_of_lists) .none kV23 dc23 pm23 an23 cd23 ct23), sl23⟩) (c23 : PySem.W.codeIn K cd23 "number_of_lists" = true) (k23 : PySem.W.keepIn K (.ref f23) = true)
    (a24 : PySem.W.nsIn K mainGlobals "list_with" = some (some (.ref f24))) (l24 : K.lookup f24 = some ⟨oc24, od24, .func (PySem.W.fnOf "list_with" "list_with" (defArgs s_list_with) (defBody s_list_with) (defScope s_list_with) .none kV24 dc24 pm24 an24 cd24 ct24), sl24⟩) (c24 : PySem.W.codeIn K cd24 "list_with" = true) (k24 : PySem.W.keepIn K (.ref f24) = true)
    (a25 : PySem.W.nsIn K mainGlobals "fewest_visits" = some (some (.ref f25))) (l25 : K.lookup f25 = some ⟨oc25, od25, .func (PySem.W.fnOf "fewest_visits" "fewest_visits" (defArgs s_fewest_visits) (defBody s_fewest_visits) (defScope s_fewest_visits) .none kV25 dc25 pm25 an25 cd25 ct25), sl25⟩) (c25 : PySem.W.codeIn K cd25 "fewest_visits" = true) (k25 : PySem.W.keepIn K (.ref f25) = true)
    (a26 : PySem.W.nsIn K mainGlobals "count_shortest" = some (some (.ref f26))) (l26 : K.lookup f26 = some ⟨oc26, od26, .func (PySem.W.fnOf "count_shortest" "count_shortest" (defArgs s_count_shortest) (defBody s_count_shortest) (defScope s_count_shortest) .none kV26 dc26 pm26 an26 cd26 ct26), sl26⟩) (c26 : PySem.W.codeIn K cd26 "count_shortest" = true) (k26 : PySem.W.keepIn K (.ref f26) = true)
    (a27 : PySem.W.nsIn K mainGlobals "nth_shortest" = some (some (.ref f27))) (l27 : K.lookup f27 = some ⟨oc27, od27, .func (PySem.W.fnOf "nth_shortest" "nth_shortest" (defArgs s_nth_shortest) (defBody s_nth_shortest) (defScope s_nth_shortest) .none kV27 dc27 pm27 an27 cd27 ct27), sl27⟩) (c27 : PySem.W.codeIn K cd27 "nth_shortest" = true) (k27 : PySem.W.keepIn K (.ref f27) = true)
    (a28 : PySem.W.nsIn K mainGlobals "_law_bag" = some (some (.ref f28))) (l28 : K.lookup f28 = some ⟨oc28, od28, .func (PySem.W.fnOf "_law_bag" "_law_bag" (defArgs s_law_bag) (defBody s_law_bag) (defScope s_law_bag) .none kV28 dc28 pm28 an28 cd28 ct28), sl28⟩) (c28 : PySem.W.codeIn K cd28 "_law_bag" = true) (k28 : PySem.W.keepIn K (.ref f28) = true)
    (a29 : PySem.W.nsIn K mainGlobals "_law_draw" = some (some (.ref f29))) (l29 : K.lookup f29 = some ⟨oc29, od29, .func (PySem.W.fnOf "_law_draw" "_law_draw" (defArgs s_law_draw) (defBody s_law_draw) (defScope s_law_draw) .none kV29 dc29 pm29 an29 cd29 ct29), sl29⟩) (c29 : PySem.W.codeIn K cd29 "_law_draw" = true) (k29 : PySem.W.keepIn K (.ref f29) = true)
    (a30 : PySem.W.nsIn K mainGlobals "_law_cells" = some (some (.ref f30))) (l30 : K.lookup f30 = some ⟨oc30, od30, .func (PySem.W.fnOf "_law_cells" "_law_cells" (defArgs s_law_cells) (defBody s_law_cells) (defScope s_law_cells) .none kV30 dc30 pm30 an30 cd30 ct30), sl30⟩) (c30 : PySem.W.codeIn K cd30 "_law_cells" = true) (k30 : PySem.W.keepIn K (.ref f30) = true)
    (a31 : PySem.W.nsIn K mainGlobals "_law_names" = some (some (.ref f31))) (l31 : K.lookup f31 = some ⟨oc31, od31, .func (PySem.W.fnOf "_law_names" "_law_names" (defArgs s_law_names) (defBody s_law_names) (defScope s_law_names) .none kV31 dc31 pm31 an31 cd31 ct31), sl31⟩) (c31 : PySem.W.codeIn K cd31 "_law_names" = true) (k31 : PySem.W.keepIn K (.ref f31) = true)
    (a32 : PySem.W.nsIn K mainGlobals "_law_row" = some (some (.ref f32))) (l32 : K.lookup f32 = some ⟨oc32, od32, .func (PySem.W.fnOf "_law_row" "_law_row" (defArgs s_law_row) (defBody s_law_row) (defScope s_law_row) .none kV32 dc32 pm32 an32 cd32 ct32), sl32⟩) (c32 : PySem.W.codeIn K cd32 "_law_row" = true) (k32 : PySem.W.keepIn K (.ref f32) = true)
    (a33 : PySem.W.nsIn K mainGlobals "_law_right" = some (some (.ref f33))) (l33 : K.lookup f33 = some ⟨oc33, od33, .func (PySem.W.fnOf "_law_right" "_law_right" (defArgs s_law_right) (defBody s_law_right) (defScope s_law_right) .none kV33 dc33 pm33 an33 cd33 ct33), sl33⟩) (c33 : PySem.W.codeIn K cd33 "_law_right" = true) (k33 : PySem.W.keepIn K (.ref f33) = true)
    (a34 : PySem.W.nsIn K mainGlobals "law" = some (some (.ref f34))) (l34 : K.lookup f34 = some ⟨oc34, od34, .func (PySem.W.fnOf "law" "law" (defArgs s_law) (defBody s_law) (defScope s_law) .none kV34 dc34 pm34 an34 cd34 ct34), sl34⟩) (c34 : PySem.W.codeIn K cd34 "law" = true) (k34 : PySem.W.keepIn K (.ref f34) = true)
    (a35 : PySem.W.findIn K (.ref C0) "__init__" = some (some (.ref f35))) (i35 : PySem.W.isFn K (.ref f35) = true) (l35 : K.lookup f35 = some ⟨oc35, od35, .func (PySem.W.fnOf "__init__" "Effect.__init__" (defArgs s_Effect___init) (defBody s_Effect___init) (defScope s_Effect___init) .none kV35 dc35 pm35 an35 cd35 ct35), sl35⟩) (c35 : PySem.W.codeIn K cd35 "Effect.__init__" = true) (k35 : PySem.W.keepIn K (.ref f35) = true)
    (mk0 : PySem.W.makesIn K C0 = true) (kc0 : PySem.W.keepIn K (.ref C0) = true)
    (a36 : PySem.W.findIn K (.ref C0) "first" = some (some (.ref p36))) (g36 : PySem.W.specialIn K (.ref p36) "__get__" = some (some (.builtin "property.__get__"))) (t36 : PySem.W.takesIn K (.ref p36) = some true) (r36 : PySem.W.recIn K p36 "property" = some (.ref f36 :: rest36)) (l36 : K.lookup f36 = some ⟨oc36, od36, .func (PySem.W.fnOf "first" "Effect.first" (defArgs s_Effect_first) (defBody s_Effect_first) (defScope s_Effect_first) .none kV36 dc36 pm36 an36 cd36 ct36), sl36⟩) (c36 : PySem.W.codeIn K cd36 "Effect.first" = true) (k36 : PySem.W.keepIn K (.ref f36) = true)
    (a37 : PySem.W.findIn K (.ref C0) "exits" = some (some (.ref p37))) (g37 : PySem.W.specialIn K (.ref p37) "__get__" = some (some (.builtin "property.__get__"))) (t37 : PySem.W.takesIn K (.ref p37) = some true) (r37 : PySem.W.recIn K p37 "property" = some (.ref f37 :: rest37)) (l37 : K.lookup f37 = some ⟨oc37, od37, .func (PySem.W.fnOf "exits" "Effect.exits" (defArgs s_Effect_exits) (defBody s_Effect_exits) (defScope s_Effect_exits) .none kV37 dc37 pm37 an37 cd37 ct37), sl37⟩) (c37 : PySem.W.codeIn K cd37 "Effect.exits" = true) (k37 : PySem.W.keepIn K (.ref f37) = true)
    (a38 : PySem.W.findIn K (.ref C0) "leaves" = some (some (.ref p38))) (g38 : PySem.W.specialIn K (.ref p38) "__get__" = some (some (.builtin "property.__get__"))) (t38 : PySem.W.takesIn K (.ref p38) = some true) (r38 : PySem.W.recIn K p38 "property" = some (.ref f38 :: rest38)) (l38 : K.lookup f38 = some ⟨oc38, od38, .func (PySem.W.fnOf "leaves" "Effect.leaves" (defArgs s_Effect_leaves) (defBody s_Effect_leaves) (defScope s_Effect_leaves) .none kV38 dc38 pm38 an38 cd38 ct38), sl38⟩) (c38 : PySem.W.codeIn K cd38 "Effect.leaves" = true) (k38 : PySem.W.keepIn K (.ref f38) = true)
    (a39 : PySem.W.findIn K (.ref C0) "__len__" = some (some (.ref f39))) (i39 : PySem.W.isFn K (.ref f39) = true) (l39 : K.lookup f39 = some ⟨oc39, od39, .func (PySem.W.fnOf "__len__" "Effect.__len__" (defArgs s_Effect___len) (defBody s_Effect___len) (defScope s_Effect___len) .none kV39 dc39 pm39 an39 cd39 ct39), sl39⟩) (c39 : PySem.W.codeIn K cd39 "Effect.__len__" = true) (k39 : PySem.W.keepIn K (.ref f39) = true)
    (a40 : PySem.W.findIn K (.ref C0) "__eq__" = some (some (.ref f40))) (i40 : PySem.W.isFn K (.ref f40) = true) (l40 : K.lookup f40 = some ⟨oc40, od40, .func (PySem.W.fnOf "__eq__" "Effect.__eq__" (defArgs s_Effect___eq) (defBody s_Effect___eq) (defScope s_Effect___eq) .none kV40 dc40 pm40 an40 cd40 ct40), sl40⟩) (c40 : PySem.W.codeIn K cd40 "Effect.__eq__" = true) (k40 : PySem.W.keepIn K (.ref f40) = true)
    (a41 : PySem.W.findIn K (.ref C0) "path_from" = some (some (.ref f41))) (i41 : PySem.W.isFn K (.ref f41) = true) (l41 : K.lookup f41 = some ⟨oc41, od41, .func (PySem.W.fnOf "path_from" "Effect.path_from" (defArgs s_Effect_path_from) (defBody s_Effect_path_from) (defScope s_Effect_path_from) .none kV41 dc41 pm41 an41 cd41 ct41), sl41⟩) (c41 : PySem.W.codeIn K cd41 "Effect.path_from" = true) (k41 : PySem.W.keepIn K (.ref f41) = true)
    (a42 : PySem.W.findIn K (.ref C0) "__call__" = some (some (.ref f42))) (i42 : PySem.W.isFn K (.ref f42) = true) (l42 : K.lookup f42 = some ⟨oc42, od42, .func (PySem.W.fnOf "__call__" "Effect.__call__" (defArgs s_Effect___call) (defBody s_Effect___call) (defScope s_Effect___call) .none kV42 dc42 pm42 an42 cd42 ct42), sl42⟩) (c42 : PySem.W.codeIn K cd42 "Effect.__call__" = true) (k42 : PySem.W.keepIn K (.ref f42) = true)
    (n42 : PySem.W.fnIn K f42 = true)
    (a43 : PySem.W.findIn K (.ref C0) "__add__" = some (some (.ref f43))) (i43 : PySem.W.isFn K (.ref f43) = true) (l43 : K.lookup f43 = some ⟨oc43, od43, .func (PySem.W.fnOf "__add__" "Effect.__add__" (defArgs s_Effect___add) (defBody s_Effect___add) (defScope s_Effect___add) .none kV43 dc43 pm43 an43 cd43 ct43), sl43⟩) (c43 : PySem.W.codeIn K cd43 "Effect.__add__" = true) (k43 : PySem.W.keepIn K (.ref f43) = true)
    (q_MOST_PAGE : PySem.W.nsIn K mainGlobals "MOST_PAGE" = some (some (.int 39 tt_MOST_PAGE)))
    (q_MOST_PAGES : PySem.W.nsIn K mainGlobals "MOST_PAGES" = some (some (.int 40 tt_MOST_PAGES)))
    (q_MOST_TRAILS : PySem.W.nsIn K mainGlobals "MOST_TRAILS" = some (some (.int 300 tt_MOST_TRAILS)))
    (q_MOST_VISITS : PySem.W.nsIn K mainGlobals "MOST_VISITS" = some (some (.int 300 tt_MOST_VISITS)))
    (z_all : PySem.W.nsIn K mainGlobals "all" = some none)
    (z_any : PySem.W.nsIn K mainGlobals "any" = some none)
    (z_bool : PySem.W.nsIn K mainGlobals "bool" = some none)
    (z_dict : PySem.W.nsIn K mainGlobals "dict" = some none)
    (z_divmod : PySem.W.nsIn K mainGlobals "divmod" = some none)
    (z_enumerate : PySem.W.nsIn K mainGlobals "enumerate" = some none)
    (z_int : PySem.W.nsIn K mainGlobals "int" = some none)
    (z_isinstance : PySem.W.nsIn K mainGlobals "isinstance" = some none)
    (z_len : PySem.W.nsIn K mainGlobals "len" = some none)
    (z_list : PySem.W.nsIn K mainGlobals "list" = some none)
    (z_max : PySem.W.nsIn K mainGlobals "max" = some none)
    (z_min : PySem.W.nsIn K mainGlobals "min" = some none)
    (z_range : PySem.W.nsIn K mainGlobals "range" = some none)
    (z_set : PySem.W.nsIn K mainGlobals "set" = some none)
    (z_sorted : PySem.W.nsIn K mainGlobals "sorted" = some none)
    (z_tuple : PySem.W.nsIn K mainGlobals "tuple" = some none)
    (z_zip : PySem.W.nsIn K mainGlobals "zip" = some none) :
    ∃ fd : FuncData, (∀ (s : Shared) (v : Value), BindsTo s fd ⟨[v], []⟩ [("_law_script", v)]) ∧ ∀ base : Heap, K.In base → base.Ns mainGlobals mg → FnOk l.prog w K mg base CX0 11 fa fd ["_law_script"] (spLaw K) := by
  have e := hfa.symm.trans (PySem.W.mg_of X G a34)
  cases e
  obtain ⟨dv8, dr8, bd8⟩ := kwd1 (st := s_trail_after) (ps := ["visits", "start"]) (nm := "start") (v := .non) (u := .none) (n := 1) l8 c8 k8 d8 rfl rfl (fun _ _ _ _ _ _ us ks h1 h2 => match us, h1, ks, h2 with | [_], _, [_], _ => ⟨_, _, _, _, _, _, rfl, rfl, rfl⟩)
  let T : Txt K mg := ⟨X0, PySem.W.mg_of X G ax0, kx0, xx0, ⟨gx0, hx0, bx0, dx0, cx0, xn, xt, mx0⟩, tx0, bx0, ⟨cdX0, lx0, rx0⟩,
    X1, PySem.W.mg_of X G ax1, kx1, xx1, ⟨gx1, hx1, bx1, dx1, cx1, xn, xt, mx1⟩, tx1, bx1, ⟨cdX1, lx1, rx1⟩,
    X2, PySem.W.mg_of X G ax2, kx2, xx2, ⟨gx2, hx2, bx2, dx2, cx2, xn, xt, mx2⟩, tx2, bx2, ⟨cdX2, lx2, rx2⟩,
    X3, PySem.W.mg_of X G ax3, kx3, xx3, ⟨gx3, hx3, bx3, dx3, cx3, xn, xt, mx3⟩, tx3, bx3, ⟨cdX3, lx3, rx3⟩,
    X4, PySem.W.mg_of X G ax4, kx4, xx4, ⟨gx4, hx4, bx4, dx4, cx4, xn, xt, mx4⟩, tx4, bx4, ⟨cdX4, lx4, rx4⟩,
    ndx,
    C0, ⟨pg0, hd0, po0, sa0⟩, PySem.W.mg_of X G aC0,
    ⟨⟨pg0, hd0, po0, sa0⟩, ka0, kn0, kt0, km0, ke0, kf0, nf0_list, nf0_tuple, nf0_dict, nf0_int, nf0_str, nf0_bool, nf0_NoneType, sf0, ob0, on0⟩,
    na0_begin_page,
    na0_pairs,
    na0_exit_of,
    f0, _, fun_mk (st := s_is_integer) l0 c0 k0, PySem.W.mg_of X G a0, (fun_mk (st := s_is_integer) l0 c0 k0).binds fun _ _ _ _ _ _ us hl => match us, hl with | [_, _, _], _ => rfl,
    f1, _, fun_mk (st := s_check_number) l1 c1 k1, PySem.W.mg_of X G a1, (fun_mk (st := s_check_number) l1 c1 k1).binds fun _ _ _ _ _ _ us hl => match us, hl with | [_, _, _], _ => rfl,
    f2, _, fun_mk (st := s_is_page) l2 c2 k2, PySem.W.mg_of X G a2, (fun_mk (st := s_is_page) l2 c2 k2).binds fun _ _ _ _ _ _ us hl => match us, hl with | [_], _ => rfl,
    f3, _, fun_mk (st := s_is_visits) l3 c3 k3, PySem.W.mg_of X G a3, (fun_mk (st := s_is_visits) l3 c3 k3).binds fun _ _ _ _ _ _ us hl => match us, hl with | [_], _ => rfl,
    f4, _, fun_mk (st := s_is_trail) l4 c4 k4, PySem.W.mg_of X G a4, (fun_mk (st := s_is_trail) l4 c4 k4).binds fun _ _ _ _ _ _ us hl => match us, hl with | [_], _ => rfl,
    f5, _, fun_mk (st := s_check_visits) l5 c5 k5, PySem.W.mg_of X G a5, (fun_mk (st := s_check_visits) l5 c5 k5).binds fun _ _ _ _ _ _ us hl => match us, hl with | [_], _ => rfl,
    f6, _, fun_mk (st := s_check_trail) l6 c6 k6, PySem.W.mg_of X G a6, (fun_mk (st := s_check_trail) l6 c6 k6).binds fun _ _ _ _ _ _ us hl => match us, hl with | [_], _ => rfl,
    f7, _, fun_mk (st := s_visited) l7 c7 k7, PySem.W.mg_of X G a7, (fun_mk (st := s_visited) l7 c7 k7).binds fun _ _ _ _ _ _ us hl => match us, hl with | [_, _], _ => rfl,
    f8, _, fun_mk (st := s_trail_after) l8 c8 k8, PySem.W.mg_of X G a8, dv8, dr8, bd8,
    f9, _, fun_mk (st := s_trails_along) l9 c9 k9, PySem.W.mg_of X G a9, (fun_mk (st := s_trails_along) l9 c9 k9).binds fun _ _ _ _ _ _ us hl => match us, hl with | [_], _ => rfl,
    f10, _, fun_mk (st := s_visits_of) l10 c10 k10, PySem.W.mg_of X G a10, (fun_mk (st := s_visits_of) l10 c10 k10).binds fun _ _ _ _ _ _ us hl => match us, hl with | [_], _ => rfl,
    f11, _, fun_mk (st := s_exits_in) l11 c11 k11, PySem.W.mg_of X G a11, (fun_mk (st := s_exits_in) l11 c11 k11).binds fun _ _ _ _ _ _ us hl => match us, hl with | [_], _ => rfl,
    f12, _, fun_mk (st := s_is_pair) l12 c12 k12, PySem.W.mg_of X G a12, (fun_mk (st := s_is_pair) l12 c12 k12).binds fun _ _ _ _ _ _ us hl => match us, hl with | [_], _ => rfl,
    f13, _, fun_mk (st := s_leads_to_root) l13 c13 k13, PySem.W.mg_of X G a13, (fun_mk (st := s_leads_to_root) l13 c13 k13).binds fun _ _ _ _ _ _ us hl => match us, hl with | [_, _, _], _ => rfl,
    f14, _, fun_mk (st := s_are_exits) l14 c14 k14, PySem.W.mg_of X G a14, (fun_mk (st := s_are_exits) l14 c14 k14).binds fun _ _ _ _ _ _ us hl => match us, hl with | [_], _ => rfl,
    f15, _, fun_mk (st := s_check_effect) l15 c15 k15, PySem.W.mg_of X G a15, (fun_mk (st := s_check_effect) l15 c15 k15).binds fun _ _ _ _ _ _ us hl => match us, hl with | [_], _ => rfl,
    f16, _, fun_mk (st := s_effect_in) l16 c16 k16, PySem.W.mg_of X G a16, (fun_mk (st := s_effect_in) l16 c16 k16).binds fun _ _ _ _ _ _ us hl => match us, hl with | [_], _ => rfl,
    f17, _, fun_mk (st := s_effect_of) l17 c17 k17, PySem.W.mg_of X G a17, (fun_mk (st := s_effect_of) l17 c17 k17).binds fun _ _ _ _ _ _ us hl => match us, hl with | [_], _ => rfl,
    f18, _, fun_mk (st := s_same_effect) l18 c18 k18, PySem.W.mg_of X G a18, (fun_mk (st := s_same_effect) l18 c18 k18).binds fun _ _ _ _ _ _ us hl => match us, hl with | [_, _], _ => rfl,
    f19, _, fun_mk (st := s_parting_trail) l19 c19 k19, PySem.W.mg_of X G a19, (fun_mk (st := s_parting_trail) l19 c19 k19).binds fun _ _ _ _ _ _ us hl => match us, hl with | [_, _], _ => rfl,
    f20, _, fun_mk (st := s_factorial) l20 c20 k20, PySem.W.mg_of X G a20, (fun_mk (st := s_factorial) l20 c20 k20).binds fun _ _ _ _ _ _ us hl => match us, hl with | [_], _ => rfl,
    f21, _, fun_mk (st := s_free_leaves) l21 c21 k21, PySem.W.mg_of X G a21, (fun_mk (st := s_free_leaves) l21 c21 k21).binds fun _ _ _ _ _ _ us hl => match us, hl with | [_], _ => rfl,
    f22, _, fun_mk (st := s_fewest_in) l22 c22 k22, PySem.W.mg_of X G a22, (fun_mk (st := s_fewest_in) l22 c22 k22).binds fun _ _ _ _ _ _ us hl => match us, hl with | [_], _ => rfl,
    f23, _, fun_mk (st := s_number_of_lists) l23 c23 k23, PySem.W.mg_of X G a23, (fun_mk (st := s_number_of_lists) l23 c23 k23).binds fun _ _ _ _ _ _ us hl => match us, hl with | [_], _ => rfl,
    f24, _, fun_mk (st := s_list_with) l24 c24 k24, PySem.W.mg_of X G a24, (fun_mk (st := s_list_with) l24 c24 k24).binds fun _ _ _ _ _ _ us hl => match us, hl with | [_, _], _ => rfl,
    f25, _, fun_mk (st := s_fewest_visits) l25 c25 k25, PySem.W.mg_of X G a25, (fun_mk (st := s_fewest_visits) l25 c25 k25).binds fun _ _ _ _ _ _ us hl => match us, hl with | [_], _ => rfl,
    f26, _, fun_mk (st := s_count_shortest) l26 c26 k26, PySem.W.mg_of X G a26, (fun_mk (st := s_count_shortest) l26 c26 k26).binds fun _ _ _ _ _ _ us hl => match us, hl with | [_], _ => rfl,
    f27, _, fun_mk (st := s_nth_shortest) l27 c27 k27, PySem.W.mg_of X G a27, (fun_mk (st := s_nth_shortest) l27 c27 k27).binds fun _ _ _ _ _ _ us hl => match us, hl with | [_, _], _ => rfl,
    f28, _, fun_mk (st := s_law_bag) l28 c28 k28, PySem.W.mg_of X G a28, (fun_mk (st := s_law_bag) l28 c28 k28).binds fun _ _ _ _ _ _ us hl => match us, hl with | [_, _], _ => rfl,
    f29, _, fun_mk (st := s_law_draw) l29 c29 k29, PySem.W.mg_of X G a29, (fun_mk (st := s_law_draw) l29 c29 k29).binds fun _ _ _ _ _ _ us hl => match us, hl with | [_, _], _ => rfl,
    f30, _, fun_mk (st := s_law_cells) l30 c30 k30, PySem.W.mg_of X G a30, (fun_mk (st := s_law_cells) l30 c30 k30).binds fun _ _ _ _ _ _ us hl => match us, hl with | [_], _ => rfl,
    f31, _, fun_mk (st := s_law_names) l31 c31 k31, PySem.W.mg_of X G a31, (fun_mk (st := s_law_names) l31 c31 k31).binds fun _ _ _ _ _ _ us hl => match us, hl with | [_, _], _ => rfl,
    f32, _, fun_mk (st := s_law_row) l32 c32 k32, PySem.W.mg_of X G a32, (fun_mk (st := s_law_row) l32 c32 k32).binds fun _ _ _ _ _ _ us hl => match us, hl with | [_, _, _], _ => rfl,
    f33, _, fun_mk (st := s_law_right) l33 c33 k33, PySem.W.mg_of X G a33, (fun_mk (st := s_law_right) l33 c33 k33).binds fun _ _ _ _ _ _ us hl => match us, hl with | [_, _], _ => rfl,
    fa, _, fun_mk (st := s_law) l34 c34 k34, PySem.W.mg_of X G a34, (fun_mk (st := s_law) l34 c34 k34).binds fun _ _ _ _ _ _ us hl => match us, hl with | [_], _ => rfl,
    f35, _, fun_mk (st := s_Effect___init) l35 c35 k35, (fun_mk (st := s_Effect___init) l35 c35 k35).binds fun _ _ _ _ _ _ us hl => match us, hl with | [_, _, _], _ => rfl, ⟨mk0, a35, i35, kc0⟩,
    f36, _, fun_mk (st := s_Effect_first) l36 c36 k36, (fun_mk (st := s_Effect_first) l36 c36 k36).binds fun _ _ _ _ _ _ us hl => match us, hl with | [_], _ => rfl, p36, ⟨a36, g36, t36, ⟨rest36, r36⟩⟩,
    f37, _, fun_mk (st := s_Effect_exits) l37 c37 k37, (fun_mk (st := s_Effect_exits) l37 c37 k37).binds fun _ _ _ _ _ _ us hl => match us, hl with | [_], _ => rfl, p37, ⟨a37, g37, t37, ⟨rest37, r37⟩⟩,
    f38, _, fun_mk (st := s_Effect_leaves) l38 c38 k38, (fun_mk (st := s_Effect_leaves) l38 c38 k38).binds fun _ _ _ _ _ _ us hl => match us, hl with | [_], _ => rfl, p38, ⟨a38, g38, t38, ⟨rest38, r38⟩⟩,
    f39, _, fun_mk (st := s_Effect___len) l39 c39 k39, (fun_mk (st := s_Effect___len) l39 c39 k39).binds fun _ _ _ _ _ _ us hl => match us, hl with | [_], _ => rfl, a39, i39,
    f40, _, fun_mk (st := s_Effect___eq) l40 c40 k40, (fun_mk (st := s_Effect___eq) l40 c40 k40).binds fun _ _ _ _ _ _ us hl => match us, hl with | [_, _], _ => rfl, a40, i40,
    f41, _, fun_mk (st := s_Effect_path_from) l41 c41 k41, (fun_mk (st := s_Effect_path_from) l41 c41 k41).binds fun _ _ _ _ _ _ us hl => match us, hl with | [_, _], _ => rfl, ⟨a41, i41, k41⟩,
    f42, _, fun_mk (st := s_Effect___call) l42 c42 k42, (fun_mk (st := s_Effect___call) l42 c42 k42).binds fun _ _ _ _ _ _ us hl => match us, hl with | [_, _], _ => rfl, ⟨a42, i42, n42⟩,
    f43, _, fun_mk (st := s_Effect___add) l43 c43 k43, (fun_mk (st := s_Effect___add) l43 c43 k43).binds fun _ _ _ _ _ _ us hl => match us, hl with | [_, _], _ => rfl, a43, i43,
    BC.Fun.kb (fun_mk (st := s_trail_after) l8 c8 k8) fun _ _ _ _ _ _ us ws h1 h2 => match us, h1, ws, h2 with | [_], _, [_], _ => rfl,
    tt_MOST_PAGE, PySem.W.mg_of X G q_MOST_PAGE,
    tt_MOST_PAGES, PySem.W.mg_of X G q_MOST_PAGES,
    tt_MOST_TRAILS, PySem.W.mg_of X G q_MOST_TRAILS,
    tt_MOST_VISITS, PySem.W.mg_of X G q_MOST_VISITS,
    PySem.W.mg_none_of X G z_all,
    PySem.W.mg_none_of X G z_any,
    PySem.W.mg_none_of X G z_bool,
    PySem.W.mg_none_of X G z_dict,
    PySem.W.mg_none_of X G z_divmod,
    PySem.W.mg_none_of X G z_enumerate,
    PySem.W.mg_none_of X G z_int,
    PySem.W.mg_none_of X G z_isinstance,
    PySem.W.mg_none_of X G z_len,
    PySem.W.mg_none_of X G z_list,
    PySem.W.mg_none_of X G z_max,
    PySem.W.mg_none_of X G z_min,
    PySem.W.mg_none_of X G z_range,
    PySem.W.mg_none_of X G z_set,
    PySem.W.mg_none_of X G z_sorted,
    PySem.W.mg_none_of X G z_tuple,
    PySem.W.mg_none_of X G z_zip⟩
  exact ⟨T.fd_law, fun s v => .of_eq rfl, fun base _ _ => ok_law T⟩

end LW
open PySem PySem.W PyProof.Rows
set_option maxHeartbeats 0 in
theorem PySem.Challenge.cw_breadcrumbs_k43_whole_effects_trails_and_holds : PySem.Challenge.rw_breadcrumbs_k43_whole_effects_trails_and.Holds := by
  w_on; o_law; k_head; (case hw => w_witness2)
  k_fill
  refine L2.walk_of (l := PySem.Challenge.rw_breadcrumbs_k43_whole_effects_trails_and) (n := 63) (k := 11) (x := "_law_script") (CX := fun _ => L2.CX0) (sp := fun w => LW.spLaw _) rfl (by decide) rfl ⟨rfl, by decide, by decide⟩ (fun w h Y => PySem.W.kIn_of Y) ?F (fun _ _ a ns hl _ hS => ⟨a, ns, rfl, hS, hl, fun _ => rfl⟩) (fun _ _ _ _ _ h => h)
  case F =>
    intro w mg fa h KX G hmg
    refine' LW.all_mk KX G hmg ?xn ?xt ?ax0 ?kx0 ?xx0 ?gx0 ?hx0 ?bx0 ?dx0 ?cx0 ?mx0 ?tx0 ?lx0 ?rx0 ?ax1 ?kx1 ?xx1 ?gx1 ?hx1 ?bx1 ?dx1 ?cx1 ?mx1 ?tx1 ?lx1 ?rx1 ?ax2 ?kx2 ?xx2 ?gx2 ?hx2 ?bx2 ?dx2 ?cx2 ?mx2 ?tx2 ?lx2 ?rx2 ?ax3 ?kx3 ?xx3 ?gx3 ?hx3 ?bx3 ?dx3 ?cx3 ?mx3 ?tx3 ?lx3 ?rx3 ?ax4 ?kx4 ?xx4 ?gx4 ?hx4 ?bx4 ?dx4 ?cx4 ?mx4 ?tx4 ?lx4 ?rx4 ?ndx ?aC0 ?pg0 ?hd0 ?po0 ?sa0 ?ka0 ?kn0 ?kt0 ?km0 ?ke0 ?kf0 ?nf0_list ?nf0_tuple ?nf0_dict ?nf0_int ?nf0_str ?nf0_bool ?nf0_NoneType ?sf0 ?ob0 ?on0 ?na0_begin_page ?na0_pairs ?na0_exit_of ?a0 ?l0 ?c0 ?k0 ?a1 ?l1 ?c1 ?k1 ?a2 ?l2 ?c2 ?k2 ?a3 ?l3 ?c3 ?k3 ?a4 ?l4 ?c4 ?k4 ?a5 ?l5 ?c5 ?k5 ?a6 ?l6 ?c6 ?k6 ?a7 ?l7 ?c7 ?k7 ?a8 ?l8 ?c8 ?k8 ?d8 ?a9 ?l9 ?c9 ?k9 ?a10 ?l10 ?c10 ?k10 ?a11 ?l11 ?c11 ?k11 ?a12 ?l12 ?c12 ?k12 ?a13 ?l13 ?c13 ?k13 ?a14 ?l14 ?c14 ?k14 ?a15 ?l15 ?c15 ?k15 ?a16 ?l16 ?c16 ?k16 ?a17 ?l17 ?c17 ?k17 ?a18 ?l18 ?c18 ?k18 ?a19 ?l19 ?c19 ?k19 ?a20 ?l20 ?c20 ?k20 ?a21 ?l21 ?c21 ?k21 ?a22 ?l22 ?c22 ?k22 ?a23 ?l23 ?c23 ?k23 ?a24 ?l24 ?c24 ?k24 ?a25 ?l25 ?c25 ?k25 ?a26 ?l26 ?c26 ?k26 ?a27 ?l27 ?c27 ?k27 ?a28 ?l28 ?c28 ?k28 ?a29 ?l29 ?c29 ?k29 ?a30 ?l30 ?c30 ?k30 ?a31 ?l31 ?c31 ?k31 ?a32 ?l32 ?c32 ?k32 ?a33 ?l33 ?c33 ?k33 ?a34 ?l34 ?c34 ?k34 ?a35 ?i35 ?l35 ?c35 ?k35 ?mk0 ?kc0 ?a36 ?g36 ?t36 ?r36 ?l36 ?c36 ?k36 ?a37 ?g37 ?t37 ?r37 ?l37 ?c37 ?k37 ?a38 ?g38 ?t38 ?r38 ?l38 ?c38 ?k38 ?a39 ?i39 ?l39 ?c39 ?k39 ?a40 ?i40 ?l40 ?c40 ?k40 ?a41 ?i41 ?l41 ?c41 ?k41 ?a42 ?i42 ?l42 ?c42 ?k42 ?n42 ?a43 ?i43 ?l43 ?c43 ?k43 ?q_MOST_PAGE ?q_MOST_PAGES ?q_MOST_TRAILS ?q_MOST_VISITS ?z_all ?z_any ?z_bool ?z_dict ?z_divmod ?z_enumerate ?z_int ?z_isinstance ?z_len ?z_list ?z_max ?z_min ?z_range ?z_set ?z_sorted ?z_tuple ?z_zip
    (case xn => k_is); (case xt => k_is); (case ax0 => k_is); (case kx0 => k_is); (case xx0 => k_exc); (case gx0 => k_is); (case hx0 => k_is); (case bx0 => k_is); (case dx0 => k_is); (case cx0 => k_is); (case mx0 => k_is); (case tx0 => k_is); (case lx0 => k_is); (case rx0 => rfl); (case ax1 => k_is); (case kx1 => k_is); (case xx1 => k_exc); (case gx1 => k_is); (case hx1 => k_is); (case bx1 => k_is); (case dx1 => k_is); (case cx1 => k_is); (case mx1 => k_is); (case tx1 => k_is); (case lx1 => k_is); (case rx1 => rfl); (case ax2 => k_is); (case kx2 => k_is); (case xx2 => k_exc); (case gx2 => k_is); (case hx2 => k_is); (case bx2 => k_is); (case dx2 => k_is); (case cx2 => k_is); (case mx2 => k_is); (case tx2 => k_is); (case lx2 => k_is); (case rx2 => rfl); (case ax3 => k_is); (case kx3 => k_is); (case xx3 => k_exc); (case gx3 => k_is); (case hx3 => k_is); (case bx3 => k_is); (case dx3 => k_is); (case cx3 => k_is); (case mx3 => k_is); (case tx3 => k_is); (case lx3 => k_is); (case rx3 => rfl); (case ax4 => k_is); (case kx4 => k_is); (case xx4 => k_exc); (case gx4 => k_is); (case hx4 => k_is); (case bx4 => k_is); (case dx4 => k_is); (case cx4 => k_is); (case mx4 => k_is); (case tx4 => k_is); (case lx4 => k_is); (case rx4 => rfl); (case ndx => decide); (case aC0 => k_is); (case pg0 => k_is); (case hd0 => k_is); (case po0 => k_is); (case sa0 => k_is); (case ka0 => k_is); (case kn0 => k_is); (case kt0 => k_is); (case km0 => k_is); (case ke0 => k_is); (case kf0 => k_is); (case nf0_list => k_is); (case nf0_tuple => k_is); (case nf0_dict => k_is); (case nf0_int => k_is); (case nf0_str => k_is); (case nf0_bool => k_is); (case nf0_NoneType => k_is); (case sf0 => k_is); (case ob0 => k_is); (case on0 => k_is); (case na0_begin_page => k_is); (case na0_pairs => k_is); (case na0_exit_of => k_is); (case a0 => k_is); (case l0 => k_is); (case c0 => k_is); (case k0 => k_is); (case a1 => k_is); (case l1 => k_is); (case c1 => k_is); (case k1 => k_is); (case a2 => k_is); (case l2 => k_is); (case c2 => k_is); (case k2 => k_is); (case a3 => k_is); (case l3 => k_is); (case c3 => k_is); (case k3 => k_is); (case a4 => k_is); (case l4 => k_is); (case c4 => k_is); (case k4 => k_is); (case a5 => k_is); (case l5 => k_is); (case c5 => k_is); (case k5 => k_is); (case a6 => k_is); (case l6 => k_is); (case c6 => k_is); (case k6 => k_is); (case a7 => k_is); (case l7 => k_is); (case c7 => k_is); (case k7 => k_is); (case a8 => k_is); (case l8 => k_is); (case c8 => k_is); (case k8 => k_is); (case d8 => k_is); (case a9 => k_is); (case l9 => k_is); (case c9 => k_is); (case k9 => k_is); (case a10 => k_is); (case l10 => k_is); (case c10 => k_is); (case k10 => k_is); (case a11 => k_is); (case l11 => k_is); (case c11 => k_is); (case k11 => k_is); (case a12 => k_is); (case l12 => k_is); (case c12 => k_is); (case k12 => k_is); (case a13 => k_is); (case l13 => k_is); (case c13 => k_is); (case k13 => k_is); (case a14 => k_is); (case l14 => k_is); (case c14 => k_is); (case k14 => k_is); (case a15 => k_is); (case l15 => k_is); (case c15 => k_is); (case k15 => k_is); (case a16 => k_is); (case l16 => k_is); (case c16 => k_is); (case k16 => k_is); (case a17 => k_is); (case l17 => k_is); (case c17 => k_is); (case k17 => k_is); (case a18 => k_is); (case l18 => k_is); (case c18 => k_is); (case k18 => k_is); (case a19 => k_is); (case l19 => k_is); (case c19 => k_is); (case k19 => k_is); (case a20 => k_is); (case l20 => k_is); (case c20 => k_is); (case k20 => k_is); (case a21 => k_is); (case l21 => k_is); (case c21 => k_is); (case k21 => k_is); (case a22 => k_is); (case l22 => k_is); (case c22 => k_is); (case k22 => k_is); (case a23 => k_is); (case l23 => k_is); (case c23 => k_is); (case k23 => k_is); (case a24 => k_is); (case l24 => k_is); (case c24 => k_is); (case k24 => k_is); (case a25 => k_is); (case l25 => k_is); (case c25 => k_is); (case k25 => k_is); (case a26 => k_is); (case l26 => k_is); (case c26 => k_is); (case k26 => k_is); (case a27 => k_is); (case l27 => k_is); (case c27 => k_is); (case k27 => k_is); (case a28 => k_is); (case l28 => k_is); (case c28 => k_is); (case k28 => k_is); (case a29 => k_is); (case l29 => k_is); (case c29 => k_is); (case k29 => k_is); (case a30 => k_is); (case l30 => k_is); (case c30 => k_is); (case k30 => k_is); (case a31 => k_is); (case l31 => k_is); (case c31 => k_is); (case k31 => k_is); (case a32 => k_is); (case l32 => k_is); (case c32 => k_is); (case k32 => k_is); (case a33 => k_is); (case l33 => k_is); (case c33 => k_is); (case k33 => k_is); (case a34 => k_is); (case l34 => k_is); (case c34 => k_is); (case k34 => k_is); (case a35 => k_is); (case i35 => k_is); (case l35 => k_is); (case c35 => k_is); (case k35 => k_is); (case mk0 => k_is); (case kc0 => k_is); (case a36 => k_is); (case g36 => k_is); (case t36 => k_is); (case r36 => k_is); (case l36 => k_is); (case c36 => k_is); (case k36 => k_is); (case a37 => k_is); (case g37 => k_is); (case t37 => k_is); (case r37 => k_is); (case l37 => k_is); (case c37 => k_is); (case k37 => k_is); (case a38 => k_is); (case g38 => k_is); (case t38 => k_is); (case r38 => k_is); (case l38 => k_is); (case c38 => k_is); (case k38 => k_is); (case a39 => k_is); (case i39 => k_is); (case l39 => k_is); (case c39 => k_is); (case k39 => k_is); (case a40 => k_is); (case i40 => k_is); (case l40 => k_is); (case c40 => k_is); (case k40 => k_is); (case a41 => k_is); (case i41 => k_is); (case l41 => k_is); (case c41 => k_is); (case k41 => k_is); (case a42 => k_is); (case i42 => k_is); (case l42 => k_is); (case c42 => k_is); (case k42 => k_is); (case n42 => k_is); (case a43 => k_is); (case i43 => k_is); (case l43 => k_is); (case c43 => k_is); (case k43 => k_is); (case q_MOST_PAGE => k_is); (case q_MOST_PAGES => k_is); (case q_MOST_TRAILS => k_is); (case q_MOST_VISITS => k_is); (case z_all => k_is); (case z_any => k_is); (case z_bool => k_is); (case z_dict => k_is); (case z_divmod => k_is); (case z_enumerate => k_is); (case z_int => k_is); (case z_isinstance => k_is); (case z_len => k_is); (case z_list => k_is); (case z_max => k_is); (case z_min => k_is); (case z_range => k_is); (case z_set => k_is); (case z_sorted => k_is); (case z_tuple => k_is); (case z_zip => k_is)

