import PyProof.Rows.All
import Wide.All
import OpenK.AllK
import Wide.FinOn
import HandS.ForMost
import HandS.IsInst
import HandS.Style
import HandS.Wide
import HandS.Evl
import HandS.Zip
import HandS.SortKw
import HandS.Conv
import HandS.TupLe
import HandS.RaiseMore
import HandS.Defaults
import HandS.SetFor
import HandS.Strs
import HandS.GenList
import HandS.DictTup
import HandS.Iter
import KE.KDictCopyH
import KE.KDictWalk
import KE.KDictDisplayH
import KE.SortData
import HandS.Dict
import PySem.Challenge.RW_breadcrumbs_k79_trails_of_large_sites
set_option Elab.async false
set_option linter.all false
set_option maxRecDepth 100000
set_option maxHeartbeats 4000000
namespace BC
open PySem PySem.Spec PyProof.Rows L2
section
variable {X : Cx}
/-- a power of a number of any size that matters here -/
def CPowX (i j : Int) : Prop := 0 ≤ j ∧ j ≤ 1000 ∧ i.natAbs.log2 < 100000
theorem op_powX : OpR X (binaryOp .Pow) (rI CPowX fun i j => .int (i ^ j.toNat)) := opI fun i j _ _ _ _ _ hc q => by
  obtain ⟨h0, h1, h2⟩ := hc
  refine pow_int h0 ?_ q
  have hb : Builtin.Int.intBits i ≤ 100000 := by
    unfold Builtin.Int.intBits
    split <;> omega
  have h3 : (Builtin.Int.intBits i : Int) * j ≤ 100000 * j := Int.mul_le_mul_of_nonneg_right (by omega) h0
  omega
/-- a product: one factor small, or both of bounded size -/
def CMulX (i j : Int) : Prop := CMul i j ∨ CMulW i j
theorem op_mulX : OpR X (binaryOp .Mult) (rI CMulX fun i j => .int (i * j)) := opI fun _ _ _ _ _ _ _ hc q => by
  rcases hc with hc | hc
  · exact mul_int q hc.ok
  · exact mul_int q hc.ok
theorem op_fdivX : OpR X (binaryOp .FloorDiv) (rI CDivW fun i j => .int (i / j)) := op_fdivW
theorem op_modX : OpR X (binaryOp .Mod) (rI (fun _ j => 0 < j) fun i j => .int (i % j)) := opI fun i j _ _ _ _ _ hc q => by
  refine mod_int' (show j ≠ 0 by omega) ?_
  rw [Int.fmod_eq_emod_of_nonneg i (by omega)]
  exact q
def ipC (C : Int → Int → Prop) (f : Int → Int → Int) : TIp := fun x y H Q => ∃ i j, x = .int i ∧ y = .int j ∧ C i j ∧ Q (.int (f i j)) H
end
end BC
/-! ### readings opened one construct at a time: full applications alone, so that what stands in a loop is left closed -/
namespace BC
open PySem PySem.Spec PyProof.Rows L2
section
variable {K : PySem.W.Frag} {σ : L2.St} {H : Hp} {Q : VK} {QT : Bool → Hp → Prop} {QA : List V → Hp → Prop} {D : Ends} {ta tb tc : TE} {t u : TT} {a : TA} {r r' : R2} {i j : Nat} {v x y : V} {s1 s2 : TS} {g : TG} {QG : L2.St → Hp → Prop}
def LoopG (J : It) (g : TG) (tb : TS) : TS := fun D σ H => ∃ W : Nat → Nat → L2.St → Hp → Prop, (∃ m, W 0 m σ H) ∧ ∀ i m σ H, W i m σ H →
  (J.stop i H ∧ D.nx σ H) ∨ (J.go i H ∧ ∃ N : L2.St → Hp → Prop, (∀ σ' H', N σ' H' → ∃ m', m' < m ∧ W (i + 1) m' σ' H') ∧ ∀ x H', J.yld i H x H' → g x σ H' fun σ2 H2 => tb { D with nx := N, ct := N, bk := D.nx } σ2 H2)
def LcG (J : It) (g : TG) (tt : TT) (te : TE) (vs : List Nat) (σ : L2.St) (Dl : Addr) (H1 : Hp) (Q : VK) : Prop := ∃ W : Nat → Nat → Hp → Prop, (∃ m, W 0 m (upd H1 Dl (.lst []))) ∧ ∀ i m H, W i m H →
  (J.stop i H ∧ Q (.ref Dl) H) ∨ (J.go i H ∧ ∃ Nx : Hp → Prop, (∀ H', Nx H' → ∃ m', m' < m ∧ W (i + 1) m' H') ∧ ∀ x H', J.yld i H x H' → g x (wipe σ vs) H' fun σ2 H2 => wipe σ2 vs = wipe σ vs ∧ tt σ2 H2 fun b H3 =>
    if b = true then te σ2 H3 fun y H4 => ∃ acc, H4 Dl = some (.lst acc) ∧ acc.length < sizeLine ∧ Nx (upd H4 Dl (.lst (acc ++ [y]))) else Nx H3)
theorem x_seq : tSeq s1 s2 D σ H = s1 { D with nx := s2 D } σ H := rfl
theorem x_next : tNext D σ H = D.nx σ H := rfl
theorem x_brk : tBreak D σ H = D.bk σ H := rfl
theorem x_cnt : tCont D σ H = D.ct σ H := rfl
theorem x_nev : tNever D σ H = False := rfl
theorem x_ret : tRet ta D σ H = ta σ H D.rt := rfl
theorem x_retN : tRetN D σ H = D.rt .non H := rfl
theorem x_drop : tDrop ta D σ H = ta σ H (fun _ H1 => D.nx σ H1) := rfl
theorem x_ifS : tIfS t s1 s2 D σ H = t σ H (fun b H1 => if b = true then s1 D σ H1 else s2 D σ H1) := rfl
theorem x_asg : tAsg ta g D σ H = ta σ H (fun x H1 => g x σ H1 D.nx) := rfl
theorem x_gn : gName i v σ H QG = QG (σ.set i (some v)) H := rfl
theorem x_gsub {o ix : TE} {st : TSet} : gSub o ix st v σ H QG = o σ H (fun o H1 => ix σ H1 fun i H2 => st o i v H2 fun H3 => QG σ H3) := rfl
theorem x_par : tPar i j a D σ H = a σ H (fun vs H1 => ∃ v w, vs = [v, w] ∧ D.nx ((σ.set i (some v)).set j (some w)) H1) := rfl
theorem x_par3 {l : Nat} : tPar3 i j l a D σ H = a σ H (fun vs H1 => ∃ u v w, vs = [u, v, w] ∧ D.nx (((σ.set i (some u)).set j (some v)).set l (some w)) H1) := rfl
theorem x_aug {ti : TIp} : tAug i ta ti D σ H = ∃ x, σ[i]? = some (some x) ∧ ta σ H fun y H1 => ti x y H1 fun z H2 => D.nx (σ.set i (some z)) H2 := rfl
theorem x_for {wi : TI} : tFor wi g s1 D σ H = wi σ H (fun J H1 => LoopG J g s1 D σ H1) := rfl
theorem x_lc {wi : TI} {vs : List Nat} : tLc wi g t ta vs σ H Q = wi σ H (fun J H1 => ∀ Dl, H1 Dl = none → LcG J g t ta vs σ Dl H1 Q) := rfl
theorem x_rng1 {R : It → Hp → Prop} : iRng1 a σ H R = a σ H (fun vs H1 => ∃ j : Int, vs = [.int j] ∧ -(2 ^ 62) ≤ j ∧ j < 2 ^ 62 ∧ R (Itr 0 j.toNat) H1) := rfl
theorem x_rng2 {R : It → Hp → Prop} : iRng2 a σ H R = a σ H (fun vs H1 => ∃ i j : Int, vs = [.int i, .int j] ∧ (-(2 ^ 62) ≤ i ∧ i < 2 ^ 62 ∧ -(2 ^ 62) ≤ j ∧ j < 2 ^ 62) ∧ R (Itr i (j - i).toNat) H1) := rfl
theorem x_rng3 {R : It → Hp → Prop} : iRng3 a σ H R = a σ H (fun vs H1 => ∃ (i j c : Int) (n : Nat), vs = [.int i, .int j, .int c] ∧ RgC i j c n ∧ R (Itc i c n) H1) := rfl
theorem x_ilist {R : It → Hp → Prop} : iList K ta σ H R = ta σ H (fun x H1 => ∃ a, x = .ref a ∧ (∃ xs, SqL K H1 a xs) ∧ R (Itl K a) H1) := rfl
theorem x_itup {R : It → Hp → Prop} : iTup K ta σ H R = ta σ H (fun x H1 => ∃ a, x = .ref a ∧ (∃ xs, SqT K H1 a xs) ∧ R (Itt K a) H1) := rfl
theorem x_ienum {R : It → Hp → Prop} : iEnum K a σ H R = a σ H (fun vs H1 => ∃ a xs, vs = [.ref a] ∧ SqL K H1 a xs ∧ R (Ite K a) H1) := rfl
theorem x_izip {R : It → Hp → Prop} : iZip K a σ H R = a σ H (fun vs H1 => ∃ a b xs ys, vs = [.ref a, .ref b] ∧ SqL K H1 a xs ∧ SqL K H1 b ys ∧ R (Itz K a b) H1) := rfl
theorem x_istr {R : It → Hp → Prop} : iStr ta σ H R = ta σ H (fun v H1 => ∃ x, v = .str x ∧ R (Its x) H1) := rfl
theorem x_var : tVar i σ H Q = ∃ v, σ[i]? = some (some v) ∧ Q v H := rfl
theorem x_c : tC v σ H Q = Q v H := rfl
theorem x_op : tOp r ta tb σ H Q = ta σ H (fun x H1 => tb σ H1 fun y H2 => r x y H2 Q) := rfl
theorem x_un {ru : V → Hp → VK → Prop} : tUn ru ta σ H Q = ta σ H (fun x H1 => ru x H1 Q) := rfl
theorem x_test : tTest ta σ H QT = ta σ H (fun x H' => ∃ k, x = .bl k ∧ QT k H') := rfl
theorem x_b : tB ta σ H QT = ta σ H (fun x H' => ∃ k, x = .bl k ∧ QT k H') := rfl
theorem x_chain : tChain r r' ta tb tc σ H Q = ta σ H (fun x H1 => tb σ H1 fun y H2 => r x y H2 fun z H3 => ∃ k, z = .bl k ∧ (if k = true then tc σ H3 fun w' H4 => r' y w' H4 Q else Q (.bl false) H3)) := rfl
theorem x_and : tAnd t u σ H QT = t σ H (fun c H1 => if c = true then u σ H1 QT else QT false H1) := rfl
theorem x_or : tOr t u σ H QT = t σ H (fun c H1 => if c = true then QT true H1 else u σ H1 QT) := rfl
theorem x_not : tNot t σ H QT = t σ H (fun c H1 => QT (!c) H1) := rfl
theorem x_andV : tAndV ta tb σ H Q = ta σ H (fun x H1 => ∃ c, x = .bl c ∧ if c = true then tb σ H1 Q else Q (.bl false) H1) := rfl
theorem x_orV : tOrV ta tb σ H Q = ta σ H (fun x H1 => ∃ c, x = .bl c ∧ if c = true then Q (.bl true) H1 else tb σ H1 Q) := rfl
theorem x_notV : tNotV ta σ H Q = ta σ H (fun x H1 => ∃ c, x = .bl c ∧ Q (.bl (!c)) H1) := rfl
theorem x_ife : tIf t ta tb σ H Q = t σ H (fun c H1 => if c = true then ta σ H1 Q else tb σ H1 Q) := rfl
theorem x_nil : tNil σ H QA = QA [] H := rfl
theorem x_cons {rest : TA} : tCons ta rest σ H QA = ta σ H (fun x H1 => rest σ H1 fun xs H2 => QA (x :: xs) H2) := rfl
theorem x_lst : tLst a σ H Q = a σ H (fun xs H1 => xs.length ≤ sizeLine ∧ ∀ p, H1 p = none → Q (.ref p) (upd H1 p (.lst xs))) := rfl
theorem x_tup : tTup a σ H Q = a σ H (fun xs H1 => xs.length ≤ sizeLine ∧ ∀ p, H1 p = none → Q (.ref p) (upd H1 p (.tup xs))) := rfl
theorem x_cb {rc : List V → Hp → VK → Prop} : tCB rc a σ H Q = a σ H (fun vs H1 => rc vs H1 Q) := rfl
theorem x_call {sp : Sp} {dvs : List V} {E : XK} : tCall sp dvs E a σ H Q = a σ H (fun vs H1 => sp (vs ++ dvs) H1 Q E) := rfl
theorem x_callK {sp : Sp} {gV : List V → List V → List V} {E : XK} {b : TA} : tCallK sp gV E a b σ H Q = a σ H (fun vs H1 => b σ H1 fun zs H2 => sp (gV vs zs) H2 Q E) := rfl
theorem x_bm {T : String} {rm : V → List V → Hp → VK → Prop} : tBM K T rm ta a σ H Q = ta σ H (fun x H1 => tyV K T x H1 ∧ a σ H1 fun xs H2 => rm x xs H2 Q) := rfl
theorem x_bm0 {T : String} {rm : V → List V → Hp → VK → Prop} : tBM0 K T rm ta σ H Q = ta σ H (fun x H1 => tyV K T x H1 ∧ rm x [] H1 Q) := rfl
theorem x_sl {rs : V → Option Int → Option Int → Hp → VK → Prop} {tl th : TO} : tSl rs ta tl th σ H Q = ta σ H (fun x H1 => tl σ H1 fun l H2 => th σ H2 fun u H3 => rs x l u H3 Q) := rfl
theorem x_nopart {QO : Option Int → Hp → Prop} : tNoPart σ H QO = QO none H := rfl
theorem x_part {QO : Option Int → Hp → Prop} : tPart ta σ H QO = ta σ H (fun x H1 => ∃ i, x = .int i ∧ QO (some i) H1) := rfl
theorem x_revL : tRevL K ta σ H Q = ta σ H (fun x H1 => ∃ a xs, x = .ref a ∧ SqL K H1 a xs ∧ ∀ p, H1 p = none → Q (.ref p) (upd H1 p (.lst xs.reverse))) := rfl
theorem x_I0 {f : Int → Int → V} {m n : Int} : rI0 f (.int m) (.int n) H Q ↔ Q (f m n) H := ⟨fun ⟨i, j, e1, e2, q⟩ => by cases e1; cases e2; exact q, fun q => ⟨m, n, rfl, rfl, q⟩⟩
theorem x_I {C : Int → Int → Prop} {f : Int → Int → V} {m n : Int} : rI C f (.int m) (.int n) H Q ↔ C m n ∧ Q (f m n) H := ⟨fun ⟨i, j, e1, e2, q⟩ => by cases e1; cases e2; exact q, fun q => ⟨m, n, rfl, rfl, q⟩⟩
theorem x_U {f : Int → V} {m : Int} : rU f (.int m) H Q ↔ Q (f m) H := ⟨fun ⟨i, e1, q⟩ => by cases e1; exact q, fun q => ⟨m, rfl, q⟩⟩
theorem x_ip {f : Int → Int → Int} {m n : Int} : ipI f (.int m) (.int n) H Q ↔ Q (.int (f m n)) H := ⟨fun ⟨i, j, e1, e2, q⟩ => by cases e1; cases e2; exact q, fun q => ⟨m, n, rfl, rfl, q⟩⟩
theorem x_ipC {C : Int → Int → Prop} {f : Int → Int → Int} {m n : Int} : ipC C f (.int m) (.int n) H Q ↔ C m n ∧ Q (.int (f m n)) H := ⟨fun ⟨i, j, e1, e2, q⟩ => by cases e1; cases e2; exact q, fun q => ⟨m, n, rfl, rfl, q⟩⟩
theorem x_eqI {m n : Int} : rEq (.int m) (.int n) H Q ↔ Q (.bl (decide (m = n))) H := by
  unfold rEq
  rw [show scal (V.int m) (V.int n) = true from rfl]
  by_cases e : m = n
  · subst e; simp
  · simp [e]
theorem x_neI {m n : Int} : rNe (.int m) (.int n) H Q ↔ Q (.bl (!decide (m = n))) H := by
  unfold rNe
  rw [show scal (V.int m) (V.int n) = true from rfl]
  by_cases e : m = n
  · subst e; simp
  · simp [e]
end
/-! ### the rules that speak of the written part, by its own name -/
section
variable {X : Cx} {K : PySem.W.Frag}
theorem k_pi_list {tg l : Expr} {tl : TE} (hK : X.K = K) (hl : PE X l tl) : PI X tg l (iList K tl) := by subst hK; exact pi_list hl
theorem k_pi_enum {e : Expr} {ta : TA} {p pos tpos : Pos} {elts : List Expr} {kk : Nat} (hK : X.K = K) (hg : Gl X "enumerate") (hm : X.mg "enumerate" = none) (ha : PA X [e] ta) (hs : starEach [e] X.env = [(false, eval e X.env)] := by rfl) : PI X (.Tuple elts kk tpos) (.Call (.Name "enumerate" p) [e] [] pos) (iEnum K ta) := by subst hK; exact pi_enum hg hm ha hs
theorem k_ix_list (hK : X.K = K) : IxR X (rIxL K) := by subst hK; exact ix_list
theorem k_ix_tup (hK : X.K = K) : IxR X (rIxT K) := by subst hK; exact ix_tup
theorem k_sl_list (hK : X.K = K) : SlR X (rSlL K) := by subst hK; exact sl_list
theorem k_in (hK : X.K = K) : OpR X (compareOp .In) (rIn K false) := by subst hK; exact op_in_seq
theorem k_notIn (hK : X.K = K) : OpR X (compareOp .NotIn) (rIn K true) := by subst hK; exact op_notIn_seq
theorem k_eqD (hK : X.K = K) (hu : X.A.units + 64 < cLine) : OpR X (compareOp .Eq) (rEqD K) := by subst hK; exact op_eqD hu
theorem k_neD (hK : X.K = K) (hu : X.A.units + 64 < cLine) : OpR X (compareOp .NotEq) (rNeD K) := by subst hK; exact op_neD hu
def rLen (K : PySem.W.Frag) : List V → Hp → VK → Prop := fun xs H Q => ∃ p ys, xs = [.ref p] ∧ (SqL K H p ys ∨ SqT K H p ys) ∧ Q (.int ys.length) H
def rListOf (K : PySem.W.Frag) : List V → Hp → VK → Prop := fun xs H Q => ∃ p ys, xs = [.ref p] ∧ (SqL K H p ys ∨ SqT K H p ys) ∧ ∀ l, H l = none → Q (.ref l) (upd H l (.lst ys))
theorem k_len (hK : X.K = K) : CallR X (.builtin "len") (rLen K) := by subst hK; exact call_len_seq
theorem k_listOf (hK : X.K = K) : CallR X (.type "list") (rListOf K) := by subst hK; exact call_list_of
theorem k_isi (hK : X.K = K) : CallR X (.builtin "isinstance") (rIsi K) := by subst hK; exact call_isi
theorem k_sum (hK : X.K = K) (hc : X.calm = true) : CallR X (.builtin "sum") (rSum K) := by subst hK; exact cr_sum hc
theorem k_all (hK : X.K = K) (hc : X.calm = true) : CallR X (.builtin "all") (rAll K) := by subst hK; exact cr_all hc
def tTruK (K : PySem.W.Frag) (ta : TE) : TT := fun σ H Q => ta σ H fun x H' => ∃ k, TruV K x H' k ∧ Q k H'
theorem k_truth {a : Expr} {ta : TE} (hK : X.K = K) (ha : PE X a ta) (he : ∀ whole, isTrue a X.env whole = (do let v ← whole; standAt a.pos; holding [v] (truthy v))) : PT X a (tTruK K ta) := by subst hK; exact pt_truth ha he
theorem k_tup {es : List Expr} {k n : Nat} {pos : Pos} {t : TGs} (hK : X.K = K) (hc : X.calm = true) (h : PGs X es t)
    (hn : (assignEach es X.env).length = n := by rfl) (hst : (assignEach es X.env).findIdx? (·.1) = none := by rfl) : PG X (.Tuple es k pos) (gTup K n t) := by subst hK; exact pg_tup hc h hn hst
theorem k_bm0 {T : String} {to : TE} {r : V → List V → Hp → VK → Prop} {e : Expr} (hK : X.K = K) (h : PE X e (tBM0 X.K T r to)) : PE X e (tBM0 K T r to) := by subst hK; exact h
theorem k_bm {T : String} {to : TE} {ta : TA} {r : V → List V → Hp → VK → Prop} {e : Expr} (hK : X.K = K) (h : PE X e (tBM X.K T r to ta)) : PE X e (tBM K T r to ta) := by subst hK; exact h
theorem k_rev {e : Expr} {te : TE} {k : Nat} {p1 p2 p3 pos : Pos} (hK : X.K = K) (he : PE X e te) : PE X (.Subscript e (.Slice none none (some (.UnaryOp .USub (.Constant (.int 1) k p1) p2)) p3) pos) (tRevL K te) := by subst hK; exact pe_revL he
end
section
variable {K : PySem.W.Frag} {σ : L2.St} {H : Hp} {ta : TE} {QT : Bool → Hp → Prop}
theorem x_tru : tTruK K ta σ H QT = ta σ H (fun x H' => ∃ k, TruV K x H' k ∧ QT k H') := rfl
end
/-! ### loops -/
section
variable {K : PySem.W.Frag} {σ : L2.St} {H : Hp} {D : Ends} {g : TG} {tb : TS}
theorem lg_rng {lo : Int} {n : Nat} (Pv : Nat → L2.St → Hp → Prop) (h0 : Pv 0 σ H)
    (hs : ∀ i σ H, i < n → Pv i σ H → g (.int (lo + i)) σ H fun σ2 H2 => tb { D with nx := Pv (i + 1), ct := Pv (i + 1), bk := D.nx } σ2 H2) (hd : ∀ σ H, Pv n σ H → D.nx σ H) : LoopG (Itr lo n) g tb D σ H := for_range Pv h0 hs hd
theorem lg_list {a : Addr} {xs : List V} (Pv : Nat → L2.St → Hp → Prop) (h0 : Pv 0 σ H) (hl : ∀ i σ H, i ≤ xs.length → Pv i σ H → SqL K H a xs)
    (hs : ∀ i x σ H, xs[i]? = some x → Pv i σ H → g x σ H fun σ2 H2 => tb { D with nx := Pv (i + 1), ct := Pv (i + 1), bk := D.nx } σ2 H2) (hd : ∀ σ H, Pv xs.length σ H → D.nx σ H) : LoopG (Itl K a) g tb D σ H := for_list Pv h0 hl hs hd
/-- a pair unpacked -/
theorem g_two {i j : Nat} {T : Addr} {x y : V} {QG : L2.St → Hp → Prop} (h : H T = some (.tup [x, y])) (q : QG ((σ.set i (some x)).set j (some y)) H) : gTup K 2 (gCons (gName i) (gCons (gName j) gNil)) (.ref T) σ H QG :=
  ⟨T, [x, y], rfl, .inl (.inl h), rfl, x, [y], rfl, y, [], rfl, rfl, q⟩
end
/-! ### comprehensions over lists whose elements are given by a function of the turn -/
section
variable {K : PySem.W.Frag} {σ : L2.St} {H1 : Hp} {g : TG} {tt : TT} {te : TE} {vs : List Nat} {Dl : Addr} {Q : VK}
theorem lc_g (n : Nat) {J : It} (Pv : Nat → Hp → Prop) (h0 : Pv 0 (upd H1 Dl (.lst []))) (hst : ∀ H, Pv n H → J.stop n H) (hgo : ∀ i H, i < n → Pv i H → J.go i H)
    (hs : ∀ i H x H', i < n → Pv i H → J.yld i H x H' → g x (wipe σ vs) H' fun σ2 H2 => wipe σ2 vs = wipe σ vs ∧ tt σ2 H2 fun b H3 =>
      if b = true then te σ2 H3 fun y H4 => ∃ acc, H4 Dl = some (.lst acc) ∧ acc.length < sizeLine ∧ Pv (i + 1) (upd H4 Dl (.lst (acc ++ [y]))) else Pv (i + 1) H3) (hd : ∀ H, Pv n H → Q (.ref Dl) H) : LcG J g tt te vs σ Dl H1 Q := by
  refine ⟨fun i m H => m = n - i ∧ i ≤ n ∧ Pv i H, ⟨n, by simp, Nat.zero_le _, h0⟩, ?_⟩
  rintro i m H ⟨rfl, hi, p⟩
  by_cases hlt : i < n
  · exact .inr ⟨hgo i H hlt p, Pv (i + 1), fun H' p' => ⟨n - (i + 1), by omega, rfl, hlt, p'⟩, fun x H' y => hs i H x H' hlt p y⟩
  · have e : i = n := by omega
    subst e
    exact .inl ⟨hst H p, hd H p⟩
end
/-! ### comprehensions that change nothing -/
section
variable {K : PySem.W.Frag} {σ : L2.St} {H1 : Hp} {g : TG} {tt : TT} {te : TE} {vs : List Nat} {Dl : Addr} {Q : VK}
def kept (n : Nat) (keep : Nat → Bool) (f : Nat → V) : List V := ((List.range n).filter keep).map f
theorem kept_yes {n : Nat} {k : Nat → Bool} {f : Nat → V} (h : k n = true) : kept (n + 1) k f = kept n k f ++ [f n] := by
  unfold kept
  rw [List.range_succ, List.filter_append, List.map_append]
  simp [h]
theorem kept_no {n : Nat} {k : Nat → Bool} {f : Nat → V} (h : k n = false) : kept (n + 1) k f = kept n k f := by
  unfold kept
  rw [List.range_succ, List.filter_append, List.map_append]
  simp [h]
theorem kept_len (n : Nat) (k : Nat → Bool) (f : Nat → V) : (kept n k f).length ≤ n := by
  unfold kept
  rw [List.length_map]
  exact Nat.le_trans (List.length_filter_le _ _) (by rw [List.length_range]; exact Nat.le_refl _)
theorem kept_all (n : Nat) (f : Nat → V) : kept n (fun _ => true) f = (List.range n).map f := by
  unfold kept
  rw [List.filter_eq_self.mpr (by simp)]
theorem lc_pure {J : It} (n : Nat) (item : Nat → L2.St) (keep : Nat → Bool) (f : Nat → V) (hD : H1 Dl = none) (hn : n ≤ 100000)
    (hst : ∀ H', Evl.Ex H1 H' → J.stop n H') (hgo : ∀ i H', i < n → Evl.Ex H1 H' → J.go i H')
    (hy : ∀ i H' x H'' (QG : L2.St → Hp → Prop), i < n → Evl.Ex H1 H' → J.yld i H' x H'' → (Evl.Ex H' H'' → QG (item i) H'') → g x (wipe σ vs) H'' QG)
    (hw : ∀ i, i < n → wipe (item i) vs = wipe σ vs) (ht : ∀ i, i < n → Evl.EvT tt (item i) H1 (keep i)) (he : ∀ i, i < n → keep i = true → Evl.Ev te (item i) H1 (f i))
    (hd : ∀ H', Evl.Ex H1 H' → H' Dl = some (.lst (kept n keep f)) → Q (.ref Dl) H') : LcG J g tt te vs σ Dl H1 Q := by
  refine lc_g n (fun i H' => Evl.Ex H1 H' ∧ H' Dl = some (.lst (kept i keep f))) ⟨Evl.Ex.new hD, upd_same⟩ (fun H' h => hst H' h.1) (fun i H' hi h => hgo i H' hi h.1) (fun i H' x H'' hi h y => ?_) (fun H' h => hd H' h.1 h.2)
  obtain ⟨e, hl⟩ := h
  refine hy i H' x H'' _ hi e y fun e2 => ⟨hw i hi, ht i hi H'' (e.trans e2) _ fun H3 e3 => ?_⟩
  have hl3 := e3 _ _ (e2 _ _ hl)
  cases hk : keep i with
  | false =>
    show (if false = true then _ else _)
    rw [if_neg Bool.false_ne_true, kept_no hk]
    exact ⟨(e.trans e2).trans e3, hl3⟩
  | true =>
    show (if true = true then _ else _)
    rw [if_pos rfl]
    refine he i hi hk H3 ((e.trans e2).trans e3) _ fun H4 e4 => ⟨_, e4 _ _ hl3, Nat.lt_of_lt_of_le (Nat.lt_of_le_of_lt (kept_len i keep f) hi) (Nat.le_trans hn (by decide)), ?_⟩
    rw [kept_yes hk]
    exact ⟨(((e.trans e2).trans e3).trans e4).mut hD, upd_same⟩
theorem tyes {σ : L2.St} {H : Hp} : Evl.EvT tYes σ H true := fun H1 _ _ q => q H1 (Evl.Ex.refl H1)
theorem lc_enum {a : Addr} {xs : List V} {j k : Nat} (keep : Nat → Bool) (f : Nat → V) (hx : SqL K H1 a xs) (hD : H1 Dl = none) (hn : xs.length ≤ 100000)
    (hw : ∀ u v : V, wipe (((wipe σ vs).set j (some u)).set k (some v)) vs = wipe σ vs)
    (ht : ∀ i x, xs[i]? = some x → Evl.EvT tt (((wipe σ vs).set j (some (.int (i : Nat)))).set k (some x)) H1 (keep i))
    (he : ∀ i x, xs[i]? = some x → keep i = true → Evl.Ev te (((wipe σ vs).set j (some (.int (i : Nat)))).set k (some x)) H1 (f i))
    (hd : ∀ H', Evl.Ex H1 H' → H' Dl = some (.lst (kept xs.length keep f)) → Q (.ref Dl) H') : LcG (Ite K a) (gTup K 2 (gCons (gName j) (gCons (gName k) gNil))) tt te vs σ Dl H1 Q := by
  refine lc_pure xs.length (fun i => ((wipe σ vs).set j (some (.int (i : Nat)))).set k (some (xs.getD i .non))) keep f hD hn (fun H' e => ⟨xs, Evl.ex_l e hx, Nat.le_refl _⟩) (fun i H' hi e => ⟨xs, xs[i], Evl.ex_l e hx, List.getElem?_eq_getElem hi⟩)
    (fun i H' x H'' QG hi e y q => ?_) (fun i hi => hw _ _) (fun i hi => ht i _ (by rw [List.getD_eq_getElem?_getD, List.getElem?_eq_getElem hi]; rfl)) (fun i hi => he i _ (by rw [List.getD_eq_getElem?_getD, List.getElem?_eq_getElem hi]; rfl)) hd
  obtain ⟨T, v, rfl, hT, rfl, hf⟩ := y
  have hv := hf xs (Evl.ex_l e hx)
  have e1 : xs.getD i .non = v := by rw [List.getD_eq_getElem?_getD, hv]; rfl
  refine g_two upd_same ?_
  have q2 := q (Evl.Ex.new hT)
  rw [e1] at q2
  exact q2
theorem lc_list {a : Addr} {xs : List V} {j : Nat} (keep : Nat → Bool) (f : Nat → V) (hx : SqL K H1 a xs) (hD : H1 Dl = none) (hn : xs.length ≤ 100000)
    (hw : ∀ u : V, wipe ((wipe σ vs).set j (some u)) vs = wipe σ vs)
    (ht : ∀ i x, xs[i]? = some x → Evl.EvT tt ((wipe σ vs).set j (some x)) H1 (keep i))
    (he : ∀ i x, xs[i]? = some x → keep i = true → Evl.Ev te ((wipe σ vs).set j (some x)) H1 (f i))
    (hd : ∀ H', Evl.Ex H1 H' → H' Dl = some (.lst (kept xs.length keep f)) → Q (.ref Dl) H') : LcG (Itl K a) (gName j) tt te vs σ Dl H1 Q := by
  refine lc_pure xs.length (fun i => (wipe σ vs).set j (some (xs.getD i .non))) keep f hD hn (fun H' e => ⟨xs, Evl.ex_l e hx, Nat.le_refl _⟩) (fun i H' hi e => ⟨xs, xs[i], Evl.ex_l e hx, List.getElem?_eq_getElem hi⟩)
    (fun i H' x H'' QG hi e y q => ?_) (fun i hi => hw _) (fun i hi => ht i _ (by rw [List.getD_eq_getElem?_getD, List.getElem?_eq_getElem hi]; rfl)) (fun i hi => he i _ (by rw [List.getD_eq_getElem?_getD, List.getElem?_eq_getElem hi]; rfl)) hd
  obtain ⟨rfl, hf⟩ := y
  have hv := hf xs (Evl.ex_l e hx)
  have e1 : xs.getD i .non = x := by rw [List.getD_eq_getElem?_getD, hv]; rfl
  show QG _ _
  rw [← e1]
  exact q (Evl.Ex.refl _)
end
/-! ### operations on values -/
section
variable {K : PySem.W.Frag} {H : Hp} {Q : VK}
theorem isi_int {i : Int} {T : String} {b : Bool} (h : kitB "int" T = some b) (q : Q (.bl b) H) : rIsi K [.int i, .ty T] H Q :=
  ⟨.int i, .ty T, .type "int", .type T, b, rfl, .ty T, .base (.int i), kit_ty h, q⟩
theorem ixL {p : Addr} {xs : List V} {i : Int} {v : V} (h : SqL K H p xs) (hi : atI xs i = some v) (q : Q v H) : rIxL K (.ref p) (.int i) H Q := ⟨p, xs, i, v, rfl, rfl, h, hi, q⟩
theorem setL {p : Addr} {xs : List V} {i : Int} {j : Nat} {v : V} {R : Hp → Prop} (h : H p = some (.lst xs)) (hj : ixN xs.length i = some j) (q : R (upd H p (.lst (xs.set j v)))) : rSetL (.ref p) (.int i) v H R := ⟨p, xs, i, j, rfl, rfl, h, hj, q⟩
theorem catL {p b : Addr} {xs ys : List V} (h : H p = some (.lst xs)) (hb : H b = some (.lst ys)) (hz : xs.length + ys.length ≤ sizeLine) (q : ∀ l, H l = none → Q (.ref l) (upd H l (.lst (xs ++ ys)))) : rCat (.ref p) (.ref b) H Q := ⟨p, b, xs, ys, rfl, rfl, h, hb, hz, q⟩
theorem sumL {p : Addr} {ns : List Int} (h : SqL K H p (ns.map V.int)) (q : Q (.int ns.sum) H) : rSum K [.ref p] H Q := ⟨p, ns, rfl, h, q⟩
theorem appL {p : Addr} {xs : List V} {y : V} (h : H p = some (.lst xs)) (hz : xs.length < sizeLine) (q : Q .non (upd H p (.lst (xs ++ [y])))) : rAppend (.ref p) [y] H Q := ⟨p, xs, y, rfl, rfl, h, hz, q⟩
theorem tyL {p : Addr} {xs : List V} (h : H p = some (.lst xs)) : tyV K "list" (.ref p) H := Or.inl ⟨rfl, _, Or.inl (Or.inl h)⟩
theorem atI_n {xs : List V} {i : Int} {j : Nat} {v : V} (e : i = (j : Int)) (h : xs[j]? = some v) : atI xs i = some v := by
  subst e
  have hj := (List.getElem?_eq_some_iff.mp h).1
  unfold atI ixN
  rw [if_pos (by omega), if_pos (by omega)]
  exact h
theorem ixN_n {n : Nat} {i : Int} {j : Nat} (e : i = (j : Int)) (h : j < n) : ixN n i = some j := by
  subst e
  unfold ixN
  rw [if_pos (by omega), if_pos (by omega)]
  rfl
theorem sz_ok {n : Nat} (h : n ≤ 100000) : n ≤ sizeLine := Nat.le_trans h (by decide)
theorem sz_lt {n : Nat} (h : n < 100000) : n < sizeLine := Nat.lt_of_lt_of_le h (by decide)
end
end BC
set_option Elab.async false
set_option linter.all false
set_option maxRecDepth 100000
set_option maxHeartbeats 4000000
namespace BC
open PySem PySem.Spec PyProof.Rows L2 Evl RZ
/-! ### all but the object at b stands -/
def Fx (b : Addr) (H H' : Hp) : Prop := ∀ a o, a ≠ b → H a = some o → H' a = some o
theorem Fx.refl (b : Addr) (H : Hp) : Fx b H H := fun _ _ _ h => h
theorem Fx.trans {b : Addr} {H H1 H2 : Hp} (x : Fx b H H1) (y : Fx b H1 H2) : Fx b H H2 := fun a o n h => y a o n (x a o n h)
theorem Fx.of {b : Addr} {H H' : Hp} (e : Ex H H') : Fx b H H' := fun a o _ h => e a o h
theorem Fx.put {b : Addr} {H : Hp} {o : HO} : Fx b H (upd H b o) := fun a u n h => by rw [upd_ne n]; exact h
theorem Fx.ex {b : Addr} {H H' : Hp} (x : Fx b H H') (h : H b = none) : Ex H H' := fun a o e => x a o (ne_of_none e h) e
theorem Fx.l {K : PySem.W.Frag} {b a : Addr} {H H' : Hp} {xs : List V} (x : Fx b H H') (n : a ≠ b) (h : SqL K H a xs) : SqL K H' a xs := by
  rcases h with h | h
  · rcases h with h | ⟨o, h⟩
    · exact .inl (.inl (x a _ n h))
    · exact .inl (.inr ⟨o, x a _ n h⟩)
  · exact .inr h
/-! ### lists -/
/-- a written list read at a drawn place -/
theorem pick {xs : List V} {r : Int} (h0 : 0 ≤ r) (h1 : r < xs.length) : ∃ v, v ∈ xs ∧ atI xs r = some v := by
  have hj : r.toNat < xs.length := by omega
  exact ⟨xs[r.toNat], List.getElem_mem hj, atI_n (j := r.toNat) (by omega) (List.getElem?_eq_getElem hj)⟩
theorem log2_small {i : Int} {k : Nat} (hk : 0 < k) (h : i.natAbs < 2 ^ k) : i.natAbs.log2 < k := PySem.Flt.log2_lt_of hk h
/-! ### kinds -/
section
variable {X : Cx} {K : PySem.W.Frag} {H : Hp} {Q : VK}
theorem tyx_l {a : Addr} {xs : List V} (h : SqL K H a xs) : TyX K H (.ref a) (.type "list") := by
  rcases h with (h | ⟨o, h⟩) | ⟨o, its, n, h, c, _⟩
  · exact .base (.lst h)
  · exact .base (.frz h)
  · exact .kList h c
theorem tyx_t {a : Addr} {xs : List V} (h : SqT K H a xs) : TyX K H (.ref a) (.type "tuple") := by
  rcases h with (h | ⟨o, h⟩) | ⟨o, its, n, h, c, _⟩
  · exact .base (.tup h)
  · exact .fTuple h
  · exact .kTuple h c
def tyn : PyData → String
  | .none => "NoneType"
  | .bool _ => "bool"
  | .int _ => "int"
  | .str _ => "str"
  | .list _ => "list"
  | .tuple _ => "tuple"
  | .dict _ => "dict"
theorem isi_x {v : V} {A T : String} {b : Bool} (h : TyX K H v (.type A)) (hk : kitB A T = some b) (q : Q (.bl b) H) : rIsi K [v, .ty T] H Q :=
  ⟨v, .ty T, .type A, .type T, b, rfl, .ty T, h, kit_ty hk, q⟩
theorem dp_ints : ∀ ns : List Int, DpAll K H (ns.map V.int) (ns.map PyData.int)
  | [] => .nil
  | n :: ns => .cons (.int n) (dp_ints ns)
/-- data of so many levels, of moderate size -/
inductive Sh : Nat → PyData → Prop
  | non (n : Nat) : Sh n .none
  | bl (n : Nat) (b : Bool) : Sh n (.bool b)
  | int (n : Nat) (i : Int) : Sh n (.int i)
  | str (n : Nat) (x : Str) : Sh n (.str x)
  | lst {n : Nat} {ds : List PyData} (hl : ds.length ≤ 100000) (h : ∀ d ∈ ds, Sh n d) : Sh (n + 1) (.list ds)
  | tup {n : Nat} {ds : List PyData} (hl : ds.length ≤ 100000) (h : ∀ d ∈ ds, Sh n d) : Sh (n + 1) (.tuple ds)
end
/-! ### more readings -/
section
variable {K : PySem.W.Frag} {σ : L2.St} {H H1 : Hp} {g : TG} {tt : TT} {te : TE} {vs : List Nat} {Dl : Addr} {Q : VK}
theorem x_eqB {m n : Bool} : rEq (.bl m) (.bl n) H Q ↔ Q (.bl (decide (m = n))) H := by
  unfold rEq
  rw [show scal (V.bl m) (V.bl n) = true from rfl]
  cases m <;> cases n <;> simp
theorem x_neB {m n : Bool} : rNe (.bl m) (.bl n) H Q ↔ Q (.bl (!decide (m = n))) H := by
  unfold rNe
  rw [show scal (V.bl m) (V.bl n) = true from rfl]
  cases m <;> cases n <;> simp
theorem x_eqS {m n : Str} : rEq (.str m) (.str n) H Q ↔ Q (.bl (decide (m = n))) H := by
  unfold rEq
  rw [show scal (V.str m) (V.str n) = true from rfl]
  by_cases e : m = n
  · subst e; simp
  · simp [e]
theorem x_neS {m n : Str} : rNe (.str m) (.str n) H Q ↔ Q (.bl (!decide (m = n))) H := by
  unfold rNe
  rw [show scal (V.str m) (V.str n) = true from rfl]
  by_cases e : m = n
  · subst e; simp
  · simp [e]
theorem allL {p : Addr} {bs : List Bool} (h : SqL K H p (bs.map V.bl)) (q : Q (.bl (bs.all id)) H) : rAll K [.ref p] H Q := ⟨p, bs, rfl, h, q⟩
theorem lenL {p : Addr} {xs : List V} (h : SqL K H p xs) (q : Q (.int (xs.length : Nat)) H) : rLen K [.ref p] H Q := ⟨p, xs, rfl, .inl h, q⟩
theorem x_izipA {a : TA} {R : It → Hp → Prop} : iZipA K a σ H R = a σ H (fun vs H1 => ∃ a b xs ys, vs = [.ref a, .ref b] ∧ ((SqL K H1 a xs ∧ SqL K H1 b ys ∧ R (Itz K a b) H1) ∨ (SqT K H1 a xs ∧ SqT K H1 b ys ∧ R (ItzT K a b) H1))) := rfl
theorem all_true (n : Nat) : ((List.replicate n true).all id) = true := by
  induction n with
  | zero => rfl
  | succ n ih => rw [List.replicate_succ, List.all_cons, ih]; rfl
theorem kept_const (n : Nat) (v : V) : kept n (fun _ => true) (fun _ => v) = List.replicate n v := by
  rw [kept_all]
  apply List.ext_getElem?
  intro j
  rw [List.getElem?_map]
  by_cases h : j < n
  · rw [List.getElem?_range h, List.getElem?_replicate, if_pos h]
    rfl
  · rw [List.getElem?_eq_none (by rw [List.length_range]; omega), List.getElem?_eq_none (by rw [List.length_replicate]; omega)]
    rfl
end
end BC
set_option Elab.async false
set_option linter.all false
set_option maxRecDepth 100000
set_option maxHeartbeats 4000000
/-! repr of lists wants to know that no repr is under way around: promises that hold where nothing is guarded -/
namespace BC
open PySem PySem.Spec PyProof.Rows L2 Evl
/-- nothing is guarded around -/
def G0 (A : Around) : Prop := A.guards = some []
theorem G0.deeper {A : Around} (g : G0 A) (env : Env) : G0 (A.deeper env) := g
/-- FnOk where nothing is guarded around -/
structure FnG (P : Program) (w : World) (K : PySem.W.Frag) (mg : Str → Option Value) (base : Heap) (CX : CXT) (k : Nat) (f : Addr) (fd : FuncData) (ps : List Str) (sp : Sp) : Prop where
  size : ∀ vs H Q E, sp vs H Q E → vs.length = ps.length
  go : ∀ (A : Around) (outer : List Env) (s : Shared) (H : Hp) (args : Args) (us : List Value) (vs : List V) (Q : VK) (E : XK), G0 A → Room k A → Env0 P w K mg base A outer s H →
    BindsTo s fd args (ps.zip us) → Vals vs us → sp vs H Q E → codeAny (model P w) A (.call (.ref f) args) (CR CX outer P w H s Q E) s
section
variable {P : Program} {w : World} {K : PySem.W.Frag} {mg : Str → Option Value} {base : Heap} {CX : CXT} {k : Nat} {f : Addr} {fd : FuncData} {ps : List Str} {sp : Sp}
theorem FnG.up (F : FnG P w K mg base CX k f fd ps sp) {j : Nat} (h : k ≤ j) : FnG P w K mg base CX j f fd ps sp :=
  ⟨F.size, fun A outer s H args us vs Q E g hr => F.go A outer s H args us vs Q E g (hr.mono h)⟩
/-- the rule for a def -/
theorem fun_okG {x qual : Str} {st : Stmt} {N : List Str} (F : Fun K x qual st f fd) (S : FnScope N ps (defScope st)) (size : ∀ vs H Q E, sp vs H Q E → vs.length = ps.length)
    (body : ∀ (cdv : Value) (A : Around) (outer : List Env) (s : Shared) (H : Hp) (vs : List V) (Q : VK) (E : XK), G0 (A.deeper (envOfC qual (defScope st) s.heap.objs.size f cdv)) → Room k (A.deeper (envOfC qual (defScope st) s.heap.objs.size f cdv)) → sp vs H Q E →
      ∃ t, PSs (cxOf CX P w K mg base N qual (defScope st) f cdv A outer s H E) (defBody st) t ∧ t { nx := fun _ H' => Q .non H', rt := Q } (start N vs) H) : FnG P w K mg base CX (k + 1) f fd ps sp := by
  obtain ⟨oc, od, kV, doc, pm, an, cdv, ct, osl, rfl, lk, hcd⟩ := F.ex
  refine ⟨size, fun A outer s H args us vs Q E g room env bind vals prom => ?_⟩
  have inK : K.In s.heap := env.mod.kin.keeps fun b o q => (env.bs b o q).1
  have loose : s.heap.NoLimit := env.mod.nolimit.keeps fun b o q => (env.bs b o q).1
  have kinds : ∀ z ∈ ps.zip us, (defScope st).names.lookup z.1 = some .local ∨ ((defScope st).names.lookup z.1 = some .cell ∧ ((cellsFrom (s.heap.objs.size + 1) (defScope st).names []).lookup z.1).isSome = true) := by
    rintro ⟨n, v⟩ hz
    have hn := (List.of_mem_zip hz).1
    rcases S.par n hn with h | h
    · exact Or.inl h
    · exact Or.inr ⟨h, PySem.W.cellsFrom_some _ _ _ (Or.inl h)⟩
  refine codeAny_call_function room.depth (inK _ _ lk) rfl S.co S.gen rfl (PySem.W.codeRec_of inK hcd) (bind _ _ _ _ ?_)
  refine wpAny_newFunctionEnv_cells S.kind kinds fun env' e1 s1 into => ?_
  subst e1
  refine ⟨loose.keeps into.toInCall.keep, codeAny_func ?_⟩
  obtain ⟨t, deriv, read⟩ := body cdv A outer s H vs Q E (g.deeper _) (room.deeper _) prom
  have I := inv_start (CX := CX) (E := E) S room.hd env (size _ _ _ _ prom) vals into
  refine wpAny_mono (deriv.run [] s1 (start N vs) H _ I read) (fun flow s' ends => ?_) fun _ _ q => q
  have done : ∀ {σ2 : L2.St} {H2 : Hp} {v : V} {u : Value}, Inv (cxOf CX P w K mg base N qual (defScope st) f cdv A outer s H E) [] σ2 H2 s' → RelV v u → Q v H2 → CE outer P w H s Q u s' := by
    intro σ2 H2 v u J rel q
    exact ⟨v, H2, J.os, J.bare, J.base, J.hok, rel, q⟩
  match flow, ends with
  | .ret u, ends =>
    obtain ⟨v, σ2, H2, J, rel, q⟩ := ends
    exact done J rel q
  | .next, ends =>
    obtain ⟨σ2, H2, J, q⟩ := ends
    exact done (v := V.non) (u := Value.none) J rfl q
  | .brk, ends =>
    obtain ⟨_, _, _, q⟩ := ends
    exact q.elim
  | .cont, ends =>
    obtain ⟨_, _, _, q⟩ := ends
    exact q.elim
end
section
variable {X : Cx} {CX : CXT} {k : Nat} {f : Addr} {fd : FuncData} {ps : List Str} {sp : Sp} {dvs : List V} {ds : List Value} {E : XK} {x : Str} {p pos : Pos} {e : Expr} {es : List Expr} {t : TA}
theorem call_G {pins : List (Addr × Obj)} {σ : L2.St} {H : Hp} {s : Shared} {Q : VK} {us : List Value} {vs : List V} (F : FnG X.prog X.w X.K X.mg X.base CX k f fd ps sp) (g : G0 X.A) (hr : Room k X.A) (hb : Binds X.K fd ps ds) (hd : Vals dvs ds)
    (hx : Passes CX X E) (I : Inv X pins σ H s) (r : Vals vs us) (h : sp (vs ++ dvs) H Q E) : wpAny (model X.prog X.w) X.A (call (.ref f) us) (EP X pins σ Q) X.xe s := by
  have both : Vals (vs ++ dvs) (us ++ ds) := r.append hd
  have many : (us ++ ds).length = ps.length := both.length.symm.trans (F.size _ _ _ _ h)
  have run := F.go X.A X.stack s H ⟨us, []⟩ (us ++ ds) (vs ++ dvs) Q E g hr I.env0 (hb s us I.kIn many) both h
  refine wpAny_call (codeAny_mono run fun res s' q => ?_)
  match res, q with
  | .error err, q => exact hx pins σ H s err s' I q
  | .ok (.ret u), q => exact I.after q
theorem pe_callG (F : FnG X.prog X.w X.K X.mg X.base CX k f fd ps sp) (g : G0 X.A) (hr : Room k X.A) (hg : Gl X x) (hm : X.mg x = some (.ref f)) (hk : PySem.W.keepIn X.K (.ref f) = true) (hb : Binds X.K fd ps ds) (hd : Vals dvs ds) (hx : Passes CX X E)
    (ha : PA X (e :: es) t) (hdb : (x == ("__debug__" : Str)) = false := by decide) (he : starEach (e :: es) X.env = (false, eval e X.env) :: starEach es X.env := by rfl) (hpl : (backTo pos (starEach es X.env)).any (·.1) = false := by rfl) :
    PE X (.Call (.Name x p) (e :: es) [] pos) (tCall sp dvs E t) := by
  constructor
  intro pins s σ H Q I h
  have args := ha.run pos pins s σ H _ I h
  refine wpAny_Call_Name_kw (ld_glob I hg hm (PySem.W.callWith_K (h₀ := X.base) I.ok.mod.kin hk (thn args ?_) he hpl) hdb)
  rintro us s1 ⟨vs, H1, I1, r, q⟩
  exact ⟨I1.kIn, call_G F g hr hb hd hx I1 r q⟩
end
/-! ### the law's own call, for a promise of this kind -/
end BC
set_option Elab.async false
set_option linter.all false
set_option maxRecDepth 100000
set_option maxHeartbeats 4000000
/-! repr, keywords, more readings -/
namespace BC
open PySem PySem.Spec PyProof.Rows L2 Evl
section
variable {X : Cx} {K : PySem.W.Frag} {σ : L2.St} {H : Hp} {Q : VK}
/-- repr of lists, tuples and what lies in them -/
def rRepr (K : PySem.W.Frag) : List V → Hp → VK → Prop := fun xs H Q => ∃ a d, xs = [.ref a] ∧ Dp K H (.ref a) d ∧ d.showable = true ∧ d.depth ≤ 60 ∧ d.hasDict = false ∧ d.shown.length ≤ sizeLine ∧ Q (.str d.shown) H
theorem k_repr (hK : X.K = K) (g : G0 X.A) (hu : X.A.units + 64 < cLine) : CallR X (.builtin "repr") (rRepr K) := by
  subst hK
  intro pins s σ H xs us Q I r h
  obtain ⟨a, d, rfl, hd, h1, h2, h3, h4, q⟩ := h
  obtain ⟨u, rfl, rfl⟩ := vals1 r
  obtain ⟨as, rd⟩ := Dp.reads I d (.ref a) (.ref a) hd rfl
  exact repr_of_reads' rd h1 (PyData.noDict_hsm h3) g (by omega) (fun _ _ e => e) (fun h' u tk hk => ⟨.str _, H, I.kept hk, ⟨_, rfl⟩, q⟩) h4
def rIsB : R2 := fun x y H Q => ∃ a b, x = .bl a ∧ y = .bl b ∧ Q (.bl (decide (a = b))) H
def rIsNB : R2 := fun x y H Q => ∃ a b, x = .bl a ∧ y = .bl b ∧ Q (.bl (!decide (a = b))) H
theorem x_isB {a b : Bool} : rIsB (.bl a) (.bl b) H Q ↔ Q (.bl (decide (a = b))) H := ⟨fun ⟨i, j, e1, e2, q⟩ => by cases e1; cases e2; exact q, fun q => ⟨a, b, rfl, rfl, q⟩⟩
theorem x_isNB {a b : Bool} : rIsNB (.bl a) (.bl b) H Q ↔ Q (.bl (!decide (a = b))) H := ⟨fun ⟨i, j, e1, e2, q⟩ => by cases e1; cases e2; exact q, fun q => ⟨a, b, rfl, rfl, q⟩⟩
theorem x_lrg {te : L2.St → Hp → (Int → Int → Hp → Prop) → Prop} : tLstRg te σ H Q = te σ H fun a b H1 => RgOk a b ∧ ∀ q, H1 q = none → Q (.ref q) (upd H1 q (.lst (rgV a b))) := rfl
theorem x_rg1 {ta : TE} {R : Int → Int → Hp → Prop} : tRg1 ta σ H R = ta σ H fun x H1 => ∃ n, x = .int n ∧ R 0 n H1 := rfl
theorem x_rg2 {ta tb : TE} {R : Int → Int → Hp → Prop} : tRg2 ta tb σ H R = ta σ H fun x H1 => tb σ H1 fun y H2 => ∃ i j, x = .int i ∧ y = .int j ∧ R i j H2 := rfl
end
theorem Fx.mut {b r : Addr} {H H' : Hp} {o : HO} (f : Fx b H H') (n : H r = none) : Fx b H (upd H' r o) := fun a u na h => by rw [upd_ne (ne_of_none h n)]; exact f a u na h
theorem fx_none {b x : Addr} {H H' : Hp} (h : Fx b H H') (n : H' x = none) (nb : x ≠ b) : H x = none := by
  cases e : H x with
  | none => rfl
  | some o => rw [h _ _ nb e] at n; cases n
/-! ### a cut: what stands after one statement -/
section
variable {σ : L2.St} {H : Hp} {D : Ends} {ta : TE} {s1 s2 : TS} {i : Nat}
theorem seq_asg (C : V → Hp → Prop) (h1 : ∀ R : VK, (∀ v H', C v H' → R v H') → ta σ H R) (h2 : ∀ v H', C v H' → s2 D (σ.set i (some v)) H') : tSeq (tAsg ta (gName i)) s2 D σ H := h1 _ h2
theorem seq_cut (C : L2.St → Hp → Prop) (h1 : ∀ N : L2.St → Hp → Prop, (∀ σ' H', C σ' H' → N σ' H') → s1 { D with nx := N } σ H) (h2 : ∀ σ' H', C σ' H' → s2 D σ' H') : tSeq s1 s2 D σ H := h1 _ h2
end
/-! ### keywords -/
theorem fun_okN {P : Program} {w : World} {K : PySem.W.Frag} {mg : Str → Option Value} {base : Heap} {CX : CXT} {k : Nat} {f : Addr} {fd : FuncData} {ps : List Str} {sp : Sp} {x qual : Str} {st : Stmt} {N : List Str} (F : Fun K x qual st f fd) (S : FnScope N ps (defScope st)) (size : ∀ vs H Q E, sp vs H Q E → vs.length = ps.length)
    (body : ∀ (cdv : Value) (A : Around) (outer : List Env) (s : Shared) (H : Hp) (vs : List V) (Q : VK) (E : XK), G0 (A.deeper (envOfC qual (defScope st) s.heap.objs.size f cdv)) → Room k (A.deeper (envOfC qual (defScope st) s.heap.objs.size f cdv)) → sp vs H Q E →
      ∃ t, PSs (cxOf CX P w K mg base N qual (defScope st) f cdv A outer s H E).nox (defBody st) t ∧ t { nx := fun _ H' => Q .non H', rt := Q } (start N vs) H) : FnG P w K mg base CX (k + 1) f fd ps sp :=
  fun_okG F S size fun cdv A outer s H vs Q E hG hr h => let ⟨t, d, q⟩ := body cdv A outer s H vs Q E hG hr h; ⟨t, d.nox, q⟩
end BC
set_option Elab.async false
set_option linter.all false
set_option maxRecDepth 100000
set_option maxHeartbeats 4000000
/-! xs[:] = ys -/
namespace BC
open PySem PySem.Spec PyProof.Rows L2 Evl
section
variable {X : Cx} {o e : Expr} {to : TE} {p2 pos : Pos}
/-- o[:] = v, both lists -/
def gAll (to : TE) : TG := fun v σ H QG => to σ H fun x H1 => ∃ a b xs ys, x = .ref a ∧ v = .ref b ∧ a ≠ b ∧ H1 a = some (.lst xs) ∧ H1 b = some (.lst ys) ∧ xs.length + ys.length ≤ sizeLine ∧ QG σ (upd H1 a (.lst ys))
theorem x_gall {σ : L2.St} {H : Hp} {v : V} {QG : L2.St → Hp → Prop} : gAll to v σ H QG = to σ H fun x H1 => ∃ a b xs ys, x = .ref a ∧ v = .ref b ∧ a ≠ b ∧ H1 a = some (.lst xs) ∧ H1 b = some (.lst ys) ∧ xs.length + ys.length ≤ sizeLine ∧ QG σ (upd H1 a (.lst ys)) := rfl
end
end BC
set_option Elab.async false
set_option linter.all false
set_option maxRecDepth 100000
set_option maxHeartbeats 4000000
/-! comprehensions that change what stands, or whose values are chosen as they come -/
namespace BC
open PySem PySem.Spec PyProof.Rows L2 Evl
section
variable {K : PySem.W.Frag} {σ : L2.St} {H1 : Hp} {g : TG} {te : TE} {vs : List Nat} {Dl : Addr} {Q : VK}
theorem lc_rngE {lo : Int} {n : Nat} (Pv : Nat → Hp → Prop) (h0 : Pv 0 (upd H1 Dl (.lst [])))
    (hs : ∀ i H, i < n → Pv i H → g (.int (lo + i)) (wipe σ vs) H fun σ2 H2 => wipe σ2 vs = wipe σ vs ∧ te σ2 H2 fun y H4 => ∃ acc, H4 Dl = some (.lst acc) ∧ acc.length < sizeLine ∧ Pv (i + 1) (upd H4 Dl (.lst (acc ++ [y]))))
    (hd : ∀ H, Pv n H → Q (.ref Dl) H) : LcG (Itr lo n) g tYes te vs σ Dl H1 Q := by
  refine lc_g n Pv h0 (fun H h => Nat.le_refl _) (fun i H hi h => hi) (fun i H x H' hi h y => ?_) hd
  obtain ⟨rfl, rfl⟩ := y
  have q := hs i _ hi h
  exact q
theorem lc_listE {a : Addr} {xs : List V} (Pv : Nat → Hp → Prop) (h0 : Pv 0 (upd H1 Dl (.lst []))) (hl : ∀ i H, i ≤ xs.length → Pv i H → SqL K H a xs)
    (hs : ∀ i x H, xs[i]? = some x → Pv i H → g x (wipe σ vs) H fun σ2 H2 => wipe σ2 vs = wipe σ vs ∧ te σ2 H2 fun y H4 => ∃ acc, H4 Dl = some (.lst acc) ∧ acc.length < sizeLine ∧ Pv (i + 1) (upd H4 Dl (.lst (acc ++ [y]))))
    (hd : ∀ H, Pv xs.length H → Q (.ref Dl) H) : LcG (Itl K a) g tYes te vs σ Dl H1 Q := by
  refine lc_g xs.length Pv h0 (fun H h => ⟨xs, hl _ H (Nat.le_refl _) h, Nat.le_refl _⟩) (fun i H hi h => ⟨xs, xs[i], hl i H (by omega) h, List.getElem?_eq_getElem hi⟩) (fun i H x H' hi h y => ?_) hd
  obtain ⟨rfl, hf⟩ := y
  exact hs i x _ (hf xs (hl i _ (by omega) h)) h
end
theorem Sh.mono {n m : Nat} {d : PyData} (h : Sh n d) (e : n ≤ m) : Sh m d := by
  induction h generalizing m with
  | non n => exact .non m
  | bl n b => exact .bl m b
  | int n i => exact .int m i
  | str n x => exact .str m x
  | @lst n ds hl h ih =>
    cases m with
    | zero => omega
    | succ m => exact .lst hl fun d hd => ih d hd (by omega)
  | @tup n ds hl h ih =>
    cases m with
    | zero => omega
    | succ m => exact .tup hl fun d hd => ih d hd (by omega)
end BC
set_option Elab.async false
set_option linter.all false
set_option maxRecDepth 100000
set_option maxHeartbeats 4000000
/-! visits and their trails, lists of numbers, their repr -/
namespace BC
open PySem PySem.Spec PyProof.Rows L2 Evl
/-! ### data whose repr is short -/
structure Tm (d : PyData) : Prop where
  s : d.showable = true
  n : d.hasDict = false
  l : d.leavesShort 13 = true
theorem Tm.int {i : Int} (h : i.natAbs < 10 ^ 12) : Tm (.int i) := ⟨by
  show decide (i.natAbs.log2 < 1920) = true
  refine decide_eq_true ?_
  by_cases z : i.natAbs = 0
  · rw [z]; decide
  · exact (Nat.log2_lt z).mpr (Nat.lt_of_lt_of_le h (by decide +kernel)), rfl, by
  show decide (_ ≤ 13) = true
  exact decide_eq_true (PyData.shown_int_le h)⟩
theorem Tm.all {ds : List PyData} (h : ∀ d ∈ ds, Tm d) : PyData.showableAll ds = true ∧ PyData.hasDictAll ds = false ∧ PyData.leavesShortAll 13 ds = true := by
  induction ds with
  | nil => exact ⟨rfl, rfl, rfl⟩
  | cons d ds ih =>
    have a := h d List.mem_cons_self
    obtain ⟨b1, b2, b3⟩ := ih fun e m => h e (List.mem_cons_of_mem _ m)
    refine ⟨?_, ?_, ?_⟩
    · show (d.showable && _) = true
      rw [a.s, b1]; rfl
    · show (d.hasDict || _) = false
      rw [a.n, b2]; rfl
    · show (d.leavesShort 13 && _) = true
      rw [a.l, b3]; rfl
theorem Tm.list {ds : List PyData} (h : ∀ d ∈ ds, Tm d) : Tm (.list ds) := ⟨by simp only [PyData.showable]; exact (Tm.all h).1, by simp only [PyData.hasDict]; exact (Tm.all h).2.1, by simp only [PyData.leavesShort]; exact (Tm.all h).2.2⟩
theorem Tm.tuple {ds : List PyData} (h : ∀ d ∈ ds, Tm d) : Tm (.tuple ds) := ⟨by simp only [PyData.showable]; exact (Tm.all h).1, by simp only [PyData.hasDict]; exact (Tm.all h).2.1, by simp only [PyData.leavesShort]; exact (Tm.all h).2.2⟩
theorem wt_int {i : Int} (h : i.natAbs < 2 ^ 40) : (PyData.int i).weight ≤ 40 := by
  simp only [PyData.weight]
  split
  · omega
  · next z =>
    have z0 : i.natAbs ≠ 0 := fun e => z (by rw [Int.natAbs_eq_zero.mp e]; rfl)
    have := (Nat.log2_lt z0).mpr h
    omega
theorem wt_all {ds : List PyData} {n : Nat} (h : ∀ d ∈ ds, d.weight ≤ n) : PyData.weightAll ds ≤ (n + 1) * ds.length := by
  induction ds with
  | nil => simp [PyData.weightAll]
  | cons d ds ih =>
    have a := h d List.mem_cons_self
    have b := ih fun e m => h e (List.mem_cons_of_mem _ m)
    simp only [PyData.weightAll, List.length_cons, Nat.mul_add]
    omega
theorem dep_all {ds : List PyData} {n : Nat} (h : ∀ d ∈ ds, d.depth ≤ n) : PyData.depthAll ds ≤ n := by
  induction ds with
  | nil => simp [PyData.depthAll]
  | cons d ds ih =>
    have a := h d List.mem_cons_self
    have b := ih fun e m => h e (List.mem_cons_of_mem _ m)
    simp only [PyData.depthAll]
    omega
section
variable {K : PySem.W.Frag} {H : Hp} {Q : VK} {a : Addr}
theorem reprX {d : PyData} (h : Dp K H (.ref a) d) (t : Tm d) (dp : d.depth ≤ 60) (wt : d.weight ≤ 2 ^ 20) (q : Q (.str d.shown) H) : rRepr K [.ref a] H Q :=
  ⟨a, d, rfl, h, t.s, dp, t.n, PyData.shown_fits (B := 13) (by decide) (by decide) t.l wt, q⟩
/-- what repr of a list of numbers says -/
def shInts (ns : List Int) : Str := (PyData.list (ns.map PyData.int)).shown
/-! ### in, index, a part of a list of numbers -/
theorem flat_ints (ns : List Int) : (ns.map V.int).all flatV = true := by
  rw [List.all_eq_true]
  intro x hx
  obtain ⟨n, _, rfl⟩ := List.mem_map.mp hx
  rfl
theorem inV_ints (p : Int) (ns : List Int) : inV (.int p) (ns.map V.int) = decide (p ∈ ns) := by
  unfold inV
  rw [List.any_map]
  by_cases h : p ∈ ns
  · rw [decide_eq_true h, List.any_eq_true]
    exact ⟨p, h, by simp [eqV]⟩
  · rw [decide_eq_false h, List.any_eq_false]
    intro x hx
    have : x ≠ p := fun e => h (e ▸ hx)
    simp [eqV, this]
theorem inL {p : Int} {ns : List Int} (h : SqL K H a (ns.map V.int)) (q : Q (.bl (decide (p ∈ ns))) H) : rIn K false (.int p) (.ref a) H Q :=
  ⟨a, _, rfl, .inl h, rfl, flat_ints ns, by rw [inV_ints]; exact q⟩
theorem ninL {p : Int} {ns : List Int} (h : SqL K H a (ns.map V.int)) (q : Q (.bl (!decide (p ∈ ns))) H) : rIn K true (.int p) (.ref a) H Q :=
  ⟨a, _, rfl, .inl h, rfl, flat_ints ns, by rw [inV_ints]; exact q⟩
theorem shp_ints (ns : List Int) : SeqAt.shaped (.list (ns.map PyData.int)) = true := by
  have h1 : ∀ ns : List Int, PyData.canLayAll0 (ns.map PyData.int) = true := fun ns => by
    induction ns with
    | nil => simp [PyData.canLayAll0]
    | cons n ns ih => simp [PyData.canLayAll0, PyData.canLay0, ih]
  have h2 := dep_all (ds := ns.map PyData.int) (n := 0) fun d m => by
      obtain ⟨n, hn, rfl⟩ := List.mem_map.mp m
      simp [PyData.depth]
  show (PyData.canLay0 _ && decide (PyData.depth _ ≤ 64)) = true
  rw [Bool.and_eq_true]
  refine ⟨?_, decide_eq_true ?_⟩
  · simp only [PyData.canLay0]; exact h1 ns
  · simp only [PyData.depth]; omega
theorem eqv_ints : ∀ ns ms : List Int, PyData.eqv (.list (ns.map PyData.int)) (.list (ms.map PyData.int)) = decide (ns = ms) := fun ns ms => by
  simp only [PyData.eqv]
  induction ns generalizing ms with
  | nil => cases ms <;> simp [PyData.eqvAll]
  | cons n ns ih =>
    cases ms with
    | nil => simp [PyData.eqvAll]
    | cons m ms =>
      simp only [List.map_cons, PyData.eqvAll, PyData.eqv, ih]
      by_cases h : n = m
      · subst h; simp
      · simp [h]
theorem eqInts {b : Addr} {ns ms : List Int} (h : SqL K H a (ns.map V.int)) (g : SqL K H b (ms.map V.int)) (q : Q (.bl (decide (ns = ms))) H) : rEqD K (.ref a) (.ref b) H Q :=
  ⟨_, _, .lst h (dp_ints ns), .lst g (dp_ints ms), shp_ints ns, shp_ints ms, by rw [eqv_ints]; exact q⟩
theorem neInts {b : Addr} {ns ms : List Int} (h : SqL K H a (ns.map V.int)) (g : SqL K H b (ms.map V.int)) (q : Q (.bl (!decide (ns = ms))) H) : rNeD K (.ref a) (.ref b) H Q :=
  ⟨_, _, .lst h (dp_ints ns), .lst g (dp_ints ms), shp_ints ns, shp_ints ms, by rw [eqv_ints]; exact q⟩
theorem pickI {ns : List Int} {r : Int} (h0 : 0 ≤ r) (h1 : r < ns.length) : ∃ n, n ∈ ns ∧ atI (ns.map V.int) r = some (.int n) := by
  obtain ⟨v, hv, e⟩ := pick (xs := ns.map V.int) h0 (by rw [List.length_map]; exact h1)
  obtain ⟨n, hn, rfl⟩ := List.mem_map.mp hv
  exact ⟨n, hn, e⟩
theorem cut_to (xs : List V) {i : Int} {j : Nat} (e : i = (j : Int)) (h : j ≤ xs.length) : cutV xs none (some i) = xs.take j := by
  subst e
  unfold cutV
  have e1 : HT.sIx xs.length 0 none = 0 := rfl
  rw [HT.sIx_nat, e1, List.drop_zero, Nat.sub_zero, Nat.min_eq_left h]
theorem slL {lo hi : Option Int} {xs : List V} (h : SqL K H a xs) (q : ∀ p, H p = none → Q (.ref p) (upd H p (.lst (cutV xs lo hi)))) : rSlL K (.ref a) lo hi H Q := ⟨a, xs, rfl, h, q⟩
end
end BC
namespace TR
/-! ### trails -/
def Pg (w : Int) (l : List Int) : Prop := ∀ x ∈ l, 0 ≤ x ∧ x < w
theorem Pg.take {w : Int} {l : List Int} (h : Pg w l) (n : Nat) : Pg w (l.take n) := fun x hx => h x (List.mem_of_mem_take hx)
theorem Pg.mono {w v : Int} {l : List Int} (h : Pg w l) (e : w ≤ v) : Pg v l := fun x hx => ⟨(h x hx).1, by have := (h x hx).2; omega⟩
theorem Pg.at {w : Int} {l : List Int} (h : Pg w l) {i : Nat} {p : Int} (e : l[i]? = some p) : 0 ≤ p ∧ p < w := h p (List.mem_of_getElem? e)
end TR
set_option Elab.async false
set_option linter.all false
set_option maxRecDepth 100000
set_option maxHeartbeats 4000000
/-! defs with one keyword-only parameter that has a default -/
namespace BC
open PySem PySem.Spec PyProof.Rows L2 Evl
/-! ### the bag of draws: a list of three numbers -/
def BagAt (H : Hp) (b : Addr) (c : Nat) : Prop := ∃ x0 x1 x2 : Int, H b = some (.lst [.int x0, .int x1, .int x2]) ∧ 0 ≤ x1 ∧ x1 < 10 ^ 65 ∧ 0 ≤ x2 ∧ x2 ≤ c
theorem BagAt.ex {H H' : Hp} {b : Addr} {c : Nat} (h : BagAt H b c) (e : Ex H H') : BagAt H' b c := by
  obtain ⟨x0, x1, x2, hb, r⟩ := h
  exact ⟨x0, x1, x2, e _ _ hb, r⟩
theorem BagAt.mono {H : Hp} {b : Addr} {c d : Nat} (h : BagAt H b c) (e : c ≤ d) : BagAt H b d := by
  obtain ⟨x0, x1, x2, hb, h1, h2, h3, h4⟩ := h
  exact ⟨x0, x1, x2, hb, h1, h2, h3, by omega⟩
theorem BagAt.some {H : Hp} {b : Addr} {c : Nat} (h : BagAt H b c) : ∃ o, H b = Option.some o := by
  obtain ⟨x0, x1, x2, hb, _⟩ := h
  exact ⟨_, hb⟩
theorem BagAt.apart {H : Hp} {b z : Addr} {c : Nat} (h : BagAt H b c) (nz : H z = none) : z ≠ b := fun e => by
  obtain ⟨o, ho⟩ := h.some
  subst e
  rw [ho] at nz
  cases nz
theorem BagAt.off {H : Hp} {b z : Addr} {c : Nat} {o : HO} (h : BagAt H b c) (nz : z ≠ b) : BagAt (upd H z o) b c := by
  obtain ⟨x0, x1, x2, hb, r⟩ := h
  exact ⟨x0, x1, x2, by rw [upd_ne (Ne.symm nz)]; exact hb, r⟩
theorem BagAt.ne {H : Hp} {b z : Addr} {c : Nat} (h : BagAt H b c) (nb : H z = none) : b ≠ z := fun e => h.apart nb e.symm
/-- the greatest number of ways that is drawn from -/
def BIG : Int := 2 ^ 2000
theorem big_of {m : Int} (h : m ≤ 100000) : m ≤ BIG := Int.le_trans h (by decide +kernel)
theorem big_lt {m : Int} (h : 0 < m) (h2 : m ≤ BIG) : m.natAbs < 2 ^ 2001 := by
  have a : m.natAbs ≤ BIG.natAbs := by omega
  exact Nat.lt_of_le_of_lt a (by decide +kernel)
def spDraw : Sp := fun vs H Q _ => ∃ (b : Addr) (m : Int) (c : Nat), vs = [.ref b, .int m] ∧ 0 < m ∧ m ≤ BIG ∧ BagAt H b c ∧ c ≤ 1000000 ∧ ∀ r H', 0 ≤ r → r < m → Fx b H H' → BagAt H' b (c + 1) → Q (.int r) H'
/-! ### lists of lists of numbers, shown -/
def dLL (ls : List (List Int)) : PyData := .list (ls.map fun l => .list (l.map PyData.int))
theorem tm_ints {l : List Int} (h : ∀ x ∈ l, x.natAbs < 10 ^ 12) : Tm (.list (l.map PyData.int)) := .list fun d m => by
  obtain ⟨x, hx, rfl⟩ := List.mem_map.mp m
  exact .int (h x hx)
theorem wt_ints {l : List Int} (h : ∀ x ∈ l, x.natAbs < 10 ^ 12) : (PyData.list (l.map PyData.int)).weight ≤ 41 * l.length := by
  simp only [PyData.weight]
  have := wt_all (ds := l.map PyData.int) (n := 40) fun d m => by
      obtain ⟨n, hn, rfl⟩ := List.mem_map.mp m
      exact wt_int (Nat.lt_of_lt_of_le (h n hn) (by decide +kernel))
  rw [List.length_map] at this
  exact this
theorem dp_ll {K : PySem.W.Frag} {H : Hp} {ps : List Addr} : ∀ {ls : List (List Int)}, ps.length = ls.length → (∀ (i : Nat) (p : Addr) (l : List Int), ps[i]? = some p → ls[i]? = some l → SqL K H p (l.map V.int)) → DpAll K H (ps.map V.ref) (ls.map fun l => PyData.list (l.map PyData.int)) := fun {ls} => by
  induction ps generalizing ls with
  | nil =>
    intro h _
    cases ls with
    | nil => exact .nil
    | cons l ls => simp at h
  | cons p ps ih =>
    intro h g
    cases ls with
    | nil => simp at h
    | cons l ls => exact .cons (.lst (g 0 p l rfl rfl) (dp_ints l)) (ih (by simpa using h) fun i q m a b => g (i + 1) q m (by rw [List.getElem?_cons_succ]; exact a) (by rw [List.getElem?_cons_succ]; exact b))
theorem reprLL {K : PySem.W.Frag} {H : Hp} {Q : VK} {a : Addr} {ls : List (List Int)} {n : Nat} (h : Dp K H (.ref a) (dLL ls)) (hv : ∀ l ∈ ls, ∀ x ∈ l, x.natAbs < 10 ^ 12) (hl : ∀ l ∈ ls, l.length ≤ n) (hz : (41 * n + 1) * ls.length ≤ 2 ^ 20) (q : Q (.str (dLL ls).shown) H) : rRepr K [.ref a] H Q := by
  refine reprX h (.list fun d m => ?_) ?_ ?_ q
  · obtain ⟨l, hm, rfl⟩ := List.mem_map.mp m
    exact tm_ints (hv l hm)
  · unfold dLL
    simp only [PyData.depth]
    have := dep_all (ds := ls.map fun l => PyData.list (l.map PyData.int)) (n := 1) fun d m => by
      obtain ⟨l, hm, rfl⟩ := List.mem_map.mp m
      simp only [PyData.depth]
      have := dep_all (ds := l.map PyData.int) (n := 0) fun d m => by
        obtain ⟨x, hx, rfl⟩ := List.mem_map.mp m
        simp [PyData.depth]
      omega
    omega
  · unfold dLL
    simp only [PyData.weight]
    have := wt_all (ds := ls.map fun l => PyData.list (l.map PyData.int)) (n := 41 * n) fun d m => by
      obtain ⟨l, hm, rfl⟩ := List.mem_map.mp m
      exact Nat.le_trans (wt_ints (hv l hm)) (Nat.mul_le_mul_left _ (hl l hm))
    rw [List.length_map] at this
    omega
theorem x_lenSet {K : PySem.W.Frag} {ta : TE} {σ : L2.St} {H : Hp} {Q : VK} : RZ.tLenSetI K ta σ H Q = ta σ H fun x H1 => ∃ (l : Addr) (ns : List Int), x = .ref l ∧ SqL K H1 l (ns.map V.int) ∧ ns.Nodup ∧ ns.length ≤ 4000 ∧ Q (.int (ns.length : Nat)) H1 := rfl
end BC
set_option Elab.async false
set_option linter.all false
set_option maxRecDepth 100000
set_option maxHeartbeats 4000000
/-! sorted(set(xs)) of a list of numbers -/
namespace BC
open PySem PySem.Spec PyProof.Rows L2 Evl RZ
/-- the set that set() starts with -/
abbrev set0 (w : World) : Obj := { cls := .type "set", dict := none, data := .set #[] 0 (.fresh 0 0 (!w.params.followText "set-order")) }
abbrev with0 (w : World) (s : Shared) : Shared := { s with heap := s.heap.push (set0 w) }
section
variable {P : Program} {w : World} {A : Around} {E : Value → Shared → Prop} {s : Shared}
set_option maxHeartbeats 3200000 in
theorem set_of_list {l : Addr} {its : Array Value} (ns : List Int) {Q : Value → Shared → Prop} (hh : A.handled = none) (hl : s.heap.IsList l its) (hit : IntsAre its.toList ns) (hb : ns.length + 1 < scanBound)
    (fin : ∀ (h' : Heap) (tk c : Nat), SetR w h' s.heap.objs.size (fun j => decide (j ∈ ns)) c → c ≤ ns.length → (∀ b o, s.heap.get? b = some o → h'.get? b = some o) → Q (.ref s.heap.objs.size) { s with heap := h', toks := tk }) :
    wpAny (model P w) A (call (.type "set") [.ref l]) Q E s := by
  have many : its.size = ns.length := by rw [← IntsAre.length hit, Array.length_toList]
  obtain ⟨c, tl, hmro⟩ := F.called_set.mro
  have m1 := F.called_set.made
  have m2 := F.called_set.sub
  refine wpAny_call (codeAny_of_tree (wpAny_pure ⟨Code.quiet_builtin _ (by decide +kernel), codeAny_builtin F.entry_type_call ?_⟩))
  rw [Around.under_plain (weight_type_call_type "set" [.ref l] []) rfl]
  have m3 := F.called_set.notType
  have m4 := F.called_set.canCreate
  have m5 := F.typeCall_set_1 (.ref l)
  repeat (any_goals (first | assumption | wp_step))
  refine codeAny_mono (code_set_led1 (.ref l) (E := E) (Q₁ := fun obj s₁ => obj = .ref s.heap.objs.size ∧ s₁ = with0 w s) ⟨rfl, rfl⟩) fun r s₁ hr => ?_
  match r, hr with
  | .error e, hr => exact hr
  | .ok .next, hr => exact hr.elim
  | .ok .brk, hr => exact hr.elim
  | .ok .cont, hr => exact hr.elim
  | .ok (.ret obj), hr =>
    obtain ⟨rfl, rfl⟩ := hr
    have at0 : (s.heap.push (set0 w)).get? s.heap.objs.size = some (set0 w) := Heap.get?_push_size _ rfl
    have ty0 : Shared.TypeIs (with0 w s) (.ref s.heap.objs.size) "set" := ⟨_, at0, rfl⟩
    have i1 := F.called_set.init.lookup
    have i2 := F.called_set.init.bind (.ref s.heap.objs.size)
    repeat (any_goals (first | assumption | wp_step))
    refine codeAny_mono (codeAny_call_builtin (R := wants (fun r s₂ => r = .none ∧ ∃ h' tk c, s₂ = { s with heap := h', toks := tk } ∧ SetR w h' s.heap.objs.size (fun j => decide (j ∈ ns)) c ∧ c ≤ ns.length ∧ (∀ b o, s.heap.get? b = some o → h'.get? b = some o)) E)
      F.called_set.init.plain F.entry_set_init (check_set_init_1 ty0 ?_)) fun r₂ s₂ hr₂ => ?_
    · obtain ⟨⟨oc, od, dt, osl⟩, old, e1, nl, e2⟩ := hl
      obtain rfl : oc = .type "list" := e1
      obtain rfl : dt = .seq its nl := e2
      have pushed := Heap.get?_push_of_some (set0 w) old
      have isl : (s.heap.push (set0 w)).IsList l its := ⟨_, pushed, rfl, nl, rfl⟩
      have k1 := F.sub_list_set
      have k2 := F.sub_list_frozenset
      have k3 : (Value.type "list" == Value.type "dict") = false := by decide
      have hltl : l < s.heap.objs.size := Heap.lt_size old
      unfold Builtin.«set.__init__» noKeywords Builtin.Frozenset.updateFrom
      generalize hPI : pyIter = PI
      wp_walk
      subst hPI
      refine wpAny_pyIter_list isl (wpAny_bind (wpAny_runValue ?_))
      have calm3 : A.in1.in1.in1.handled = none := by simp [hh]
      have psz : (s.heap.push (set0 w)).objs.size = s.heap.objs.size + 1 := Heap.size_push ..
      have apart : l ≠ (s.heap.push (set0 w)).objs.size := fun z => Nat.lt_irrefl l (by rw [psz] at z; exact Nat.lt_of_lt_of_le hltl (by rw [z]; exact Nat.le_succ _))
      have away : s.heap.objs.size ∉ [(s.heap.push (set0 w)).objs.size, l] := by
        rw [psz]
        intro z
        simp only [List.mem_cons, List.mem_nil_iff, or_false] at z
        rcases z with z | z
        · exact absurd z (Nat.ne_of_lt (Nat.lt_succ_self _))
        · exact absurd z (Nat.ne_of_gt hltl)
      have items : ∀ (i : Nat) (v : Value), its[i]? = some v → ∃ k t, ns[i]? = some k ∧ v = .int k t := fun i v hv => by
        have hi : i < ns.length := by rw [← many]; exact (Array.getElem?_eq_some_iff.mp hv).1
        obtain ⟨t, e⟩ := IntsAre.int_at hit i v (by rw [Array.getElem?_toList]; exact hv)
        refine ⟨ns[i], t, List.getElem?_eq_getElem hi, ?_⟩
        rw [e, List.getD_eq_getElem?_getD, List.getElem?_eq_getElem hi]
        rfl
      refine set_update_ints ((Walks.list calm3 _ l apart its).toS) s.heap.objs.size away ns many hb items its.size 0 _ (by omega) (Nat.zero_le _) ⟨⟨_, Heap.get?_push_size _ rfl, rfl, rfl⟩, (isl.push _)⟩ ⟨0, Nat.le_refl 0, ?_⟩ fun s' c' mv hc' hS' => ?_
      · exact setR_new_at (Heap.get?_push_of_some _ at0)
      · obtain ⟨h', g2, d', tk', os'⟩ := s'
        obtain rfl : g2 = s.gens := mv.gens
        obtain rfl : d' = s.drawn := mv.drawn
        obtain rfl : os' = s.os := mv.os
        refine wpAny_pure (wpAny_pure ⟨rfl, h', tk', c', rfl, hS', by rw [many] at hc'; exact hc', fun b o e => ?_⟩)
        have lt := Heap.lt_size e
        refine mv.heap b o ?_ (Heap.get?_push_of_some _ (Heap.get?_push_of_some _ e))
        intro z
        rw [psz] at z
        simp only [List.mem_cons, List.mem_nil_iff, or_false] at z
        rcases z with z | z
        · exact absurd z (Nat.ne_of_lt lt)
        · exact absurd z (Nat.ne_of_lt (Nat.lt_succ_of_lt lt))
    · match r₂, hr₂ with
      | .error e, hr₂ => exact hr₂
      | .ok .next, hr₂ => exact hr₂.elim
      | .ok .brk, hr₂ => exact hr₂.elim
      | .ok .cont, hr₂ => exact hr₂.elim
      | .ok (.ret r), hr₂ =>
        obtain ⟨rfl, h', tk, c', rfl, q1, q2, q3⟩ := hr₂
        repeat (any_goals (first | assumption | wp_step))
        exact fin _ _ _ q1 q2 q3
end
section
variable {X : Cx} {K : PySem.W.Frag} {a : Expr} {ta : TE} {p p2 q pos : Pos}
/-- sorted(set(xs)): the different numbers in order -/
def tSortSet (K : PySem.W.Frag) (ta : TE) : TE := fun σ H Q => ta σ H fun x H1 => ∃ (l : Addr) (ns : List Int), x = .ref l ∧ SqL K H1 l (ns.map V.int) ∧ ns.length < 64 ∧
  ∀ (ms : List Int) r, ms.Pairwise (· < ·) → (∀ k : Int, k ∈ ms ↔ k ∈ ns) → H1 r = none → Q (.ref r) (upd H1 r (.lst (ms.map V.int)))
theorem k_sortSet (hK : X.K = K) (hg : Gl X "sorted") (hm : X.mg "sorted" = none) (hg2 : Gl X "set") (hm2 : X.mg "set" = none) (ha : PE X a ta) (hc : X.calm = true := by rfl)
    (na : starEach [a] X.env = (false, eval a X.env) :: starEach [] X.env := by rfl) : PE X (.Call (.Name "sorted" p) [.Call (.Name "set" p2) [a] [] q] [] pos) (tSortSet K ta) := by
  subst hK
  refine ⟨fun pins s σ H Q I h => ?_⟩
  refine Call_ (ld_blt I hg hm (show bootBuiltins ("sorted" : Str) = some (.builtin "sorted") by decide +kernel) ?_)
  refine callWith_builtin1 (args_cons ?_ rfl) rfl rfl
  refine Call_ (ld_blt I hg2 hm2 boot_set ?_)
  refine callWith_type1 (args_cons (thn (ha.run pins s σ H _ I h) fun v s1 ⟨x, H1, I1, r1, q1⟩ => args_nil ?_) na) na rfl
  obtain ⟨l, ns, rfl, hq, hl, q1⟩ := q1
  cases r1
  obtain ⟨its, r, pl, hz⟩ := I1.list hq
  refine set_of_list ns (I1.ok.hd hc) pl.isList (by simpa using intsAre_vals r) (by unfold scanBound; omega) fun h' tk c hS hcl hk => ?_
  refine args_nil ?_
  have I2 : Inv X pins σ H1 { s1 with heap := h', toks := tk } := I1.kept hk
  refine sorted_set hS (I2.ok.hd hc) (by omega) fun s' p out c2 ms k g o hp hg hi hs hm hlen => ?_
  have few : (ms.map V.int).length ≤ sizeLine := by rw [List.length_map, hlen, sizeLine_eq]; omega
  have hn : H1 p = none := I2.hok.fresh hp
  have J : Inv X pins σ (upd H1 p (.lst (ms.map V.int))) { ({ s1 with heap := h', toks := tk } : Shared) with heap := s'.heap, gens := s'.gens, drawn := s'.drawn, toks := s'.toks } :=
    I2.call (ch := []) (Un.laid k hp hn) (I2.hok.laid k hp ⟨few, out.toList, c2, vals_of_ints hi, hg⟩) (by rw [g]; exact I2.bare) (fun _ z => nomatch z)
  have e : s' = { ({ s1 with heap := h', toks := tk } : Shared) with heap := s'.heap, gens := s'.gens, drawn := s'.drawn, toks := s'.toks } := by
    cases s'
    cases o
    rfl
  rw [e]
  exact ⟨.ref p, _, J, rfl, q1 ms p hs (fun k => by rw [hm k, decide_eq_true_eq]) hn⟩
theorem x_sortSet {σ : L2.St} {H : Hp} {Q : VK} : tSortSet K ta σ H Q = ta σ H fun x H1 => ∃ (l : Addr) (ns : List Int), x = .ref l ∧ SqL K H1 l (ns.map V.int) ∧ ns.length < 64 ∧
  ∀ (ms : List Int) r, ms.Pairwise (· < ·) → (∀ k : Int, k ∈ ms ↔ k ∈ ns) → H1 r = none → Q (.ref r) (upd H1 r (.lst (ms.map V.int))) := rfl
end
/-- two ascending lists of the same numbers are the same -/
theorem asc_same : ∀ {a b : List Int}, a.Pairwise (· < ·) → b.Pairwise (· < ·) → (∀ k : Int, k ∈ a ↔ k ∈ b) → a = b
  | [], [], _, _, _ => rfl
  | [], y :: b, _, _, h => absurd ((h y).mpr List.mem_cons_self) List.not_mem_nil
  | x :: a, [], _, _, h => absurd ((h x).mp List.mem_cons_self) List.not_mem_nil
  | x :: a, y :: b, ha, hb, h => by
    rw [List.pairwise_cons] at ha hb
    have xy : x = y := by
      have h1 := (h x).mp List.mem_cons_self
      have h2 := (h y).mpr List.mem_cons_self
      rcases List.mem_cons.mp h1 with e | e
      · exact e
      · rcases List.mem_cons.mp h2 with e2 | e2
        · exact e2.symm
        · have := ha.1 y e2
          have := hb.1 x e
          omega
    subst xy
    rw [asc_same ha.2 hb.2 fun k => ⟨fun m => by
      rcases List.mem_cons.mp ((h k).mp (List.mem_cons_of_mem _ m)) with e | e
      · subst e; have := ha.1 k m; omega
      · exact e, fun m => by
      rcases List.mem_cons.mp ((h k).mpr (List.mem_cons_of_mem _ m)) with e | e
      · subst e; have := hb.1 k m; omega
      · exact e⟩]
end BC
set_option Elab.async false
set_option linter.all false
set_option maxRecDepth 100000
set_option maxHeartbeats 4000000
/-! sites: lists of lists of natural numbers, and how they lie in the heap -/
namespace BC
open PySem PySem.Spec PyProof.Rows L2 Evl
/-! ### xs + ys of lists of any origin -/
/-- natural numbers as the program's -/
def nz (L : List Nat) : List Int := L.map fun x : Nat => (x : Int)
theorem nz_len (L : List Nat) : (nz L).length = L.length := List.length_map _
theorem nz_at {L : List Nat} {i x : Nat} (h : L[i]? = some x) : ((nz L).map V.int)[i]? = some (.int (x : Int)) := by
  unfold nz
  rw [List.getElem?_map, List.getElem?_map, h]
  rfl
theorem at_nz {L : List Nat} {i : Nat} {v : V} (h : ((nz L).map V.int)[i]? = some v) : ∃ x, L[i]? = some x ∧ v = .int (x : Int) := by
  unfold nz at h
  rw [List.getElem?_map, List.getElem?_map] at h
  cases e : L[i]? with
  | none => rw [e] at h; cases h
  | some x => rw [e] at h; cases h; exact ⟨x, rfl, rfl⟩
theorem nz_mem {L : List Nat} {x : Nat} : ((x : Nat) : Int) ∈ nz L ↔ x ∈ L := by
  unfold nz
  rw [List.mem_map]
  exact ⟨fun ⟨y, h, e⟩ => by rw [← Int.ofNat.inj e]; exact h, fun h => ⟨x, h, rfl⟩⟩
theorem nz_inj : ∀ {a b : List Nat}, nz a = nz b → a = b
  | [], [], _ => rfl
  | [], y :: b, h => by cases h
  | x :: a, [], h => by cases h
  | x :: a, y :: b, h => by
    have h1 := (List.cons.inj h).1
    have h2 := (List.cons.inj h).2
    rw [nz_inj (show nz a = nz b from h2), Int.ofNat.inj h1]
theorem nz_app (a b : List Nat) : nz (a ++ b) = nz a ++ nz b := List.map_append
theorem nz_v (a : List Nat) (x : Nat) : (nz a).map V.int ++ [V.int (x : Int)] = (nz (a ++ [x])).map V.int := by rw [nz_app, List.map_append]; rfl
theorem lts {l : List Nat} (h : l.Pairwise (· < ·)) : (nz l).Pairwise (· < ·) := by
  unfold nz
  rw [List.pairwise_map]
  exact h.imp fun h => by omega
theorem nodup_lt : ∀ (n : Nat) {l : List Nat}, l.Nodup → (∀ x ∈ l, x < n) → l.length ≤ n
  | 0, [], _, _ => Nat.le_refl _
  | 0, x :: l, _, h => by have := h x List.mem_cons_self; omega
  | n + 1, l, h1, h2 => by
    by_cases m : n ∈ l
    · have h3 := nodup_lt n (l := l.erase n) (h1.erase _) (fun x hx => by
        have a := h2 x (List.mem_of_mem_erase hx)
        have b : x ≠ n := fun e => by
          rw [h1.mem_erase_iff] at hx
          exact hx.1 e
        omega)
      have := List.length_erase_of_mem m
      omega
    · have h3 := nodup_lt n h1 (fun x hx => by
        have a := h2 x hx
        have b : x ≠ n := fun e => m (e ▸ hx)
        omega)
      omega
theorem asc_nodup {l : List Nat} (h : l.Pairwise (· < ·)) : l.Nodup := h.imp fun h => by omega
/-! ### sites -/
abbrev Grid := List (List Nat)
structure SiteOk (G : Grid) : Prop where
  n1 : 1 ≤ G.length
  n2 : G.length ≤ 12
  asc : ∀ (i : Nat) (r : List Nat), G[i]? = some r → r.Pairwise (· < ·)
  lt : ∀ (i : Nat) (r : List Nat), G[i]? = some r → ∀ x ∈ r, x < G.length
  no : ∀ (i : Nat) (r : List Nat), G[i]? = some r → i ∉ r
theorem SiteOk.len {G : Grid} (h : SiteOk G) {i : Nat} {r : List Nat} (e : G[i]? = some r) : r.length ≤ 12 := Nat.le_trans (nodup_lt _ (asc_nodup (h.asc i r e)) (h.lt i r e)) h.n2
/-- the row of a page -/
def row (G : Grid) (i : Nat) : List Nat := G.getD i []
theorem row_at {G : Grid} {i : Nat} {r : List Nat} (h : G[i]? = some r) : row G i = r := by
  unfold row
  rw [List.getD_eq_getElem?_getD, h]
  rfl
theorem at_row {G : Grid} {i : Nat} (h : i < G.length) : G[i]? = some (row G i) := by
  unfold row
  rw [List.getD_eq_getElem?_getD, List.getElem?_eq_getElem h]
  rfl
theorem SiteOk.rlt {G : Grid} (h : SiteOk G) {i x : Nat} (m : x ∈ row G i) : x < G.length := by
  by_cases q : i < G.length
  · exact h.lt i _ (at_row q) x m
  · unfold row at m
    rw [List.getD_eq_getElem?_getD, List.getElem?_eq_none (by omega)] at m
    exact (List.not_mem_nil m).elim
theorem SiteOk.rlen {G : Grid} (h : SiteOk G) (i : Nat) : (row G i).length ≤ 12 := by
  by_cases q : i < G.length
  · exact h.len (at_row q)
  · unfold row
    rw [List.getD_eq_getElem?_getD, List.getElem?_eq_none (by omega)]
    exact Nat.zero_le _
/-- a list at s of lists of numbers -/
def GridAt (H : Hp) (s : Addr) (G : Grid) : Prop := ∃ ps : List Addr, H s = some (.lst (ps.map V.ref)) ∧ ps.length = G.length ∧ ∀ i p, ps[i]? = some p → H p = some (.lst ((nz (row G i)).map V.int))
theorem GridAt.ex {H H' : Hp} {s : Addr} {G : Grid} (h : GridAt H s G) (e : Ex H H') : GridAt H' s G := by
  obtain ⟨ps, h1, h2, h3⟩ := h
  exact ⟨ps, e _ _ h1, h2, fun i p q => e _ _ (h3 i p q)⟩
theorem GridAt.get {H : Hp} {s : Addr} {G : Grid} (h : GridAt H s G) {i : Nat} (hi : i < G.length) : ∃ p xs, H s = some (.lst xs) ∧ xs.length = G.length ∧ xs[i]? = some (.ref p) ∧ H p = some (.lst ((nz (row G i)).map V.int)) := by
  obtain ⟨ps, h1, h2, h3⟩ := h
  have hx : ps[i]? = some ps[i] := List.getElem?_eq_getElem (by omega)
  exact ⟨ps[i], _, h1, by rw [List.length_map]; exact h2, by rw [List.getElem?_map, hx]; rfl, h3 i _ hx⟩
theorem GridAt.lst {H : Hp} {s : Addr} {G : Grid} (h : GridAt H s G) : ∃ xs, H s = some (.lst xs) ∧ xs.length = G.length ∧ ∀ (i : Nat) (v : V), xs[i]? = some v → i < G.length ∧ ∃ p, v = .ref p ∧ H p = some (.lst ((nz (row G i)).map V.int)) := by
  obtain ⟨ps, h1, h2, h3⟩ := h
  refine ⟨_, h1, by rw [List.length_map]; exact h2, fun i v e => ?_⟩
  rw [List.getElem?_map] at e
  cases q : ps[i]? with
  | none => rw [q] at e; cases e
  | some p =>
    rw [q] at e
    cases e
    exact ⟨by have := (List.getElem?_eq_some_iff.mp q).1; omega, p, rfl, h3 i p q⟩
/-- such a list, all of it new -/
def GridN (H H' : Hp) (s : Addr) (G : Grid) : Prop := H s = none ∧ ∃ ps : List Addr, H' s = some (.lst (ps.map V.ref)) ∧ ps.length = G.length ∧ ps.Nodup ∧ s ∉ ps ∧ ∀ i p, ps[i]? = some p → H p = none ∧ H' p = some (.lst ((nz (row G i)).map V.int))
theorem GridN.at {H H' : Hp} {s : Addr} {G : Grid} (h : GridN H H' s G) : GridAt H' s G := by
  obtain ⟨_, ps, h1, h2, _, _, h3⟩ := h
  exact ⟨ps, h1, h2, fun i p q => (h3 i p q).2⟩
theorem GridN.ex {H H' H2 : Hp} {s : Addr} {G : Grid} (h : GridN H H' s G) (e : Ex H' H2) : GridN H H2 s G := by
  obtain ⟨h0, ps, h1, h2, h4, h5, h3⟩ := h
  exact ⟨h0, ps, e _ _ h1, h2, h4, h5, fun i p q => ⟨(h3 i p q).1, e _ _ (h3 i p q).2⟩⟩
theorem GridN.back {H0 H H' : Hp} {s : Addr} {G : Grid} (h : GridN H H' s G) (e : Ex H0 H) : GridN H0 H' s G := by
  obtain ⟨h0, ps, h1, h2, h4, h5, h3⟩ := h
  exact ⟨fresh_back e h0, ps, h1, h2, h4, h5, fun i p q => ⟨fresh_back e (h3 i p q).1, (h3 i p q).2⟩⟩
/-- what was new after Hc stands -/
def Nw (Hc H H' : Hp) : Prop := ∀ x o, Hc x = none → H x = some o → H' x = some o
theorem Nw.of {Hc H H' : Hp} (e : Ex H H') : Nw Hc H H' := fun x o _ h => e x o h
theorem Nw.trans {Hc H H' H'' : Hp} (e : Nw Hc H H') (f : Nw Hc H' H'') : Nw Hc H H'' := fun x o n h => f x o n (e x o n h)
theorem Nw.fx {Hc H H' : Hp} {b : Addr} {o : HO} (h : Hc b = some o) (f : Fx b H H') : Nw Hc H H' := fun x v n g => f x v (fun e => by subst e; rw [h] at n; cases n) g
theorem Nw.put {Hc H : Hp} {a : Addr} {o u : HO} (h : Hc a = some u) : Nw Hc H (upd H a o) := fun x v n g => by
  rw [upd_ne (fun e => by subst e; rw [h] at n; cases n)]
  exact g
theorem GridN.nw {H H1 H2 : Hp} {s : Addr} {G : Grid} (h : GridN H H1 s G) (e : Nw H H1 H2) : GridN H H2 s G := by
  obtain ⟨h0, ps, h1, h2, h4, h5, h3⟩ := h
  exact ⟨h0, ps, e _ _ h0 h1, h2, h4, h5, fun i p q => ⟨(h3 i p q).1, e _ _ (h3 i p q).1 (h3 i p q).2⟩⟩
/-- one row more, made while the grid stood -/
theorem GridN.push {H H1 H' : Hp} {s p : Addr} {G : Grid} {r : List Nat} (h : GridN H H1 s G) (nH : H p = none) (np : H1 p = none) (e : Nw H H1 H') (hp : H' p = some (.lst ((nz r).map V.int))) :
    ∃ xs, H' s = some (.lst xs) ∧ xs.length = G.length ∧ GridN H (upd H' s (.lst (xs ++ [.ref p]))) s (G ++ [r]) := by
  have q1 := h
  obtain ⟨h0, ps, h1, h2, h4, h5, h3⟩ := h
  have hs : p ≠ s := Ne.symm (ne_of_none h1 np)
  refine ⟨_, e _ _ h0 h1, by rw [List.length_map]; exact h2, h0, ps ++ [p], by rw [upd_same, List.map_append]; rfl, by rw [List.length_append, List.length_append, h2]; rfl, ?_, ?_, fun i q eq => ?_⟩
  · rw [List.nodup_append]
    refine ⟨h4, by simp, fun a ha b hb e => ?_⟩
    rw [List.mem_singleton.mp hb] at e
    subst e
    obtain ⟨j, hj, ej⟩ := List.getElem_of_mem ha
    have := (h3 j a (List.getElem?_eq_some_iff.mpr ⟨hj, ej⟩)).2
    rw [np] at this
    cases this
  · intro m
    rcases List.mem_append.mp m with m | m
    · exact h5 m
    · exact hs (List.mem_singleton.mp m).symm
  · by_cases hi : i < ps.length
    · rw [List.getElem?_append_left hi] at eq
      have := h3 i q eq
      have ns : q ≠ s := fun z => h5 (z ▸ List.mem_of_getElem? eq)
      refine ⟨this.1, ?_⟩
      rw [upd_ne ns, e _ _ this.1 this.2]
      unfold row
      rw [List.getD_eq_getElem?_getD, List.getD_eq_getElem?_getD, List.getElem?_append_left (by omega)]
    · rw [List.getElem?_append_right (by omega)] at eq
      have hi2 : i - ps.length = 0 := by
        have := (List.getElem?_eq_some_iff.mp eq).1
        rw [List.length_singleton] at this
        omega
      rw [hi2] at eq
      obtain rfl : p = q := by simpa using eq
      refine ⟨nH, ?_⟩
      rw [upd_ne hs, hp]
      unfold row
      have : i = G.length := by omega
      rw [this, List.getD_eq_getElem?_getD, List.getElem?_append_right (Nat.le_refl _), Nat.sub_self]
      rfl
theorem GridN.nil {H : Hp} {s : Addr} (h : H s = none) : GridN H (upd H s (.lst [])) s [] := ⟨h, [], upd_same, rfl, List.nodup_nil, List.not_mem_nil, fun i p e => by simp at e⟩
/-- as data -/
def dG (G : Grid) : PyData := .list (G.map fun r => .list ((nz r).map PyData.int))
theorem dG_LL (G : Grid) : dG G = dLL (G.map nz) := by unfold dG dLL; rw [List.map_map]; rfl
theorem GridAt.dp {K : PySem.W.Frag} {H : Hp} {s : Addr} {G : Grid} (h : GridAt H s G) : Dp K H (.ref s) (dG G) := by
  obtain ⟨ps, h1, h2, h3⟩ := h
  rw [dG_LL]
  refine .lst (.inl (.inl h1)) (dp_ll (by rw [List.length_map]; exact h2) fun i p l a b => ?_)
  rw [List.getElem?_map] at b
  cases q : G[i]? with
  | none => rw [q] at b; cases b
  | some r =>
    rw [q] at b
    cases b
    have := h3 i p a
    rw [row_at q] at this
    exact .inl (.inl this)
theorem shp_LL (ls : List (List Int)) : SeqAt.shaped (dLL ls) = true := by
  have h0 : ∀ ns : List Int, PyData.canLayAll0 (ns.map PyData.int) = true := fun ns => by
    induction ns with
    | nil => simp [PyData.canLayAll0]
    | cons n ns ih => simp [PyData.canLayAll0, PyData.canLay0, ih]
  have h1 : ∀ ls : List (List Int), PyData.canLayAll0 (ls.map fun l => PyData.list (l.map PyData.int)) = true := fun ls => by
    induction ls with
    | nil => simp [PyData.canLayAll0]
    | cons l ls ih => simp [PyData.canLayAll0, PyData.canLay0, ih, h0]
  have h2 := dep_all (ds := ls.map fun l => PyData.list (l.map PyData.int)) (n := 1) fun d m => by
      obtain ⟨l, hm, rfl⟩ := List.mem_map.mp m
      simp only [PyData.depth]
      have := dep_all (ds := l.map PyData.int) (n := 0) fun d m => by
        obtain ⟨x, hx, rfl⟩ := List.mem_map.mp m
        simp [PyData.depth]
      omega
  show (PyData.canLay0 _ && decide (PyData.depth _ ≤ 64)) = true
  rw [Bool.and_eq_true]
  refine ⟨?_, decide_eq_true ?_⟩
  · unfold dLL; simp only [PyData.canLay0]; exact h1 ls
  · unfold dLL; simp only [PyData.depth]; omega
theorem eqv_LL : ∀ as bs : List (List Int), PyData.eqv (dLL as) (dLL bs) = decide (as = bs) := fun as bs => by
  unfold dLL
  simp only [PyData.eqv]
  induction as generalizing bs with
  | nil => cases bs <;> simp [PyData.eqvAll]
  | cons a as ih =>
    cases bs with
    | nil => simp [PyData.eqvAll]
    | cons b bs =>
      simp only [List.map_cons, PyData.eqvAll, eqv_ints, ih]
      by_cases h : a = b
      · subst h; simp
      · simp [h]
theorem nzs_inj : ∀ {a b : Grid}, a.map nz = b.map nz → a = b
  | [], [], _ => rfl
  | [], y :: b, h => by cases h
  | x :: a, [], h => by cases h
  | x :: a, y :: b, h => by
    rw [List.map_cons, List.map_cons] at h
    rw [nz_inj (List.cons.inj h).1, nzs_inj (List.cons.inj h).2]
theorem neGrid {K : PySem.W.Frag} {H : Hp} {Q : VK} {a b : Addr} {F G : Grid} (h : GridAt H a F) (g : GridAt H b G) (q : Q (.bl (!decide (F = G))) H) : rNeD K (.ref a) (.ref b) H Q := by
  have e : decide (F.map nz = G.map nz) = decide (F = G) := by
    by_cases z : F = G
    · rw [z, decide_eq_true rfl, decide_eq_true rfl]
    · rw [decide_eq_false z, decide_eq_false fun y => z (nzs_inj y)]
  refine ⟨_, _, h.dp, g.dp, by rw [dG_LL]; exact shp_LL _, by rw [dG_LL]; exact shp_LL _, ?_⟩
  rw [dG_LL, dG_LL, eqv_LL, e]
  exact q
theorem at_ints {ns : List Int} {i : Nat} {n : Int} (h : ns[i]? = some n) : (ns.map V.int)[i]? = some (.int n) := by rw [List.getElem?_map, h]; rfl
theorem atI_last {xs : List V} {v : V} (h : xs[xs.length - 1]? = some v) : atI xs (-1) = some v := by
  have hl : xs.length - 1 < xs.length := (List.getElem?_eq_some_iff.mp h).1
  have e : ixN xs.length (-1) = some (xs.length - 1) := by
    unfold ixN
    rw [if_neg (by omega), if_pos (by omega)]
    congr 1
    omega
  unfold atI
  rw [e]
  exact h
theorem cut_take (xs : List V) (j : Nat) : cutV xs none (some (j : Int)) = xs.take j := by
  by_cases h : j ≤ xs.length
  · exact BC.cut_to xs rfl h
  · unfold cutV
    have e1 : HT.sIx xs.length 0 none = 0 := rfl
    rw [HT.sIx_nat, e1, List.drop_zero, Nat.sub_zero, Nat.min_eq_right (by omega), List.take_length, List.take_of_length_le (by omega)]
theorem GridN.get {H H' : Hp} {s : Addr} {G : Grid} (h : GridN H H' s G) {i : Nat} (hi : i < G.length) : ∃ p xs, H' s = some (.lst xs) ∧ xs.length = G.length ∧ xs[i]? = some (.ref p) ∧ H' p = some (.lst ((nz (row G i)).map V.int)) ∧ H p = none := by
  obtain ⟨_, ps, h1, h2, _, _, h3⟩ := h
  have hx : ps[i]? = some ps[i] := List.getElem?_eq_getElem (by omega)
  exact ⟨ps[i], _, h1, by rw [List.length_map]; exact h2, by rw [List.getElem?_map, hx]; rfl, (h3 i _ hx).2, (h3 i _ hx).1⟩
end BC
set_option Elab.async false
set_option linter.all false
set_option maxRecDepth 100000
set_option maxHeartbeats 4000000
/-! walks on a site, by number and one by one -/
namespace BC
section
open PySem PySem.Spec PyProof.Rows L2 Evl
theorem x_augS {to ti te : TE} {tget : V → V → Hp → VK → Prop} {tip : TIp} {tset : TSet} {D : Ends} {σ : L2.St} {H : Hp} : tAugS to ti te tget tip tset D σ H = to σ H fun o H1 => ti σ H1 fun i H2 => tget o i H2 fun x H3 => te σ H3 fun y H4 => tip x y H4 fun z H5 => tset o i z H5 fun H6 => D.nx σ H6 := rfl
end
def lst (r : List Nat) : Nat := r.getLast?.getD 0
theorem sum_zeros {α : Type} : ∀ l : List α, (l.map fun _ => 0).sum = 0
  | [] => rfl
  | x :: l => by rw [List.map_cons, List.sum_cons, sum_zeros l]
/-- the number of walks of t steps from v to the page that keep out -/
def fw (G : Grid) (out : List Nat) (p : Nat) : Nat → Nat → Nat
  | 0, v => if v = p ∧ v ∉ out then 1 else 0
  | t + 1, v => if v ∉ out then ((row G v).map fun u => fw G out p t u).sum else 0
theorem sum_le {f : Nat → Nat} {b : Nat} : ∀ {l : List Nat}, (∀ x ∈ l, f x ≤ b) → (l.map f).sum ≤ l.length * b
  | [], _ => by simp
  | x :: l, h => by
    have a := h x List.mem_cons_self
    have b := sum_le (l := l) fun y hy => h y (List.mem_cons_of_mem _ hy)
    rw [List.map_cons, List.sum_cons, List.length_cons, Nat.succ_mul]
    omega
/-! ### products of lists of numbers -/
def cnv (a b : List Nat) (k : Nat) : Nat := ((List.range (k + 1)).map fun i => a.getD i 0 * b.getD (k - i) 0).sum
def conv (a b : List Nat) (n : Nat) : List Nat := (List.range (n + 1)).map fun k => cnv a b k
/-- what is added up while the first i of a are done, and j of b at the next one -/
def part (a b : List Nat) (i j k : Nat) : Nat := ((List.range (k + 1)).map fun u => if u < i ∨ (u = i ∧ k - u < j) then a.getD u 0 * b.getD (k - u) 0 else 0).sum
section
open PySem PySem.Spec PyProof.Rows L2 Evl
/-! ### what the functions of loops.py give -/
def cl (G : Grid) (out : List Nat) (p n : Nat) : List Nat := (List.range (n + 1)).map fun t => fw G out p t p
/-- a new grid behind a new grid -/
theorem GridN.ext {H H1 H2 : Hp} {s d : Addr} {G F : Grid} (h : GridN H H1 s G) (g : GridN H1 H2 d F) (e : Ex H1 H2) (low : ∀ x, H1 x = none → H x = none) : ∃ xs zs, H2 s = some (.lst xs) ∧ H2 d = some (.lst zs) ∧ xs.length = G.length ∧ zs.length = F.length ∧ GridN H (upd H2 s (.lst (xs ++ zs))) s (G ++ F) := by
  obtain ⟨h0, ps, h1, h2, h4, h5, h3⟩ := h
  obtain ⟨g0, qs, g1, g2, g4, g5, g3⟩ := g
  refine ⟨_, _, e _ _ h1, g1, by rw [List.length_map, h2], by rw [List.length_map, g2], h0, ps ++ qs, by rw [upd_same, List.map_append], by rw [List.length_append, List.length_append, h2, g2], ?_, ?_, fun i p q => ?_⟩
  · rw [List.nodup_append]
    refine ⟨h4, g4, fun a ha b hb z => ?_⟩
    subst z
    obtain ⟨i, hi, ei⟩ := List.getElem_of_mem ha
    obtain ⟨j, hj, ej⟩ := List.getElem_of_mem hb
    have a1 := (h3 i a (List.getElem?_eq_some_iff.mpr ⟨hi, ei⟩)).2
    have a2 := (g3 j a (List.getElem?_eq_some_iff.mpr ⟨hj, ej⟩)).1
    rw [a2] at a1
    cases a1
  · intro m
    rcases List.mem_append.mp m with m | m
    · exact h5 m
    · obtain ⟨j, hj, ej⟩ := List.getElem_of_mem m
      have a2 := (g3 j s (List.getElem?_eq_some_iff.mpr ⟨hj, ej⟩)).1
      rw [a2] at h1
      cases h1
  · by_cases hi : i < ps.length
    · rw [List.getElem?_append_left hi] at q
      have := h3 i p q
      have ns : p ≠ s := fun z => h5 (z ▸ List.mem_of_getElem? q)
      refine ⟨this.1, ?_⟩
      rw [upd_ne ns, e _ _ this.2]
      unfold row
      rw [List.getD_eq_getElem?_getD, List.getD_eq_getElem?_getD, List.getElem?_append_left (by omega)]
    · rw [List.getElem?_append_right (by omega)] at q
      have := g3 _ p q
      have ns : p ≠ s := fun z => by
        have a := this.1
        rw [z, h1] at a
        cases a
      refine ⟨low p this.1, ?_⟩
      rw [upd_ne ns, this.2]
      unfold row
      rw [List.getD_eq_getElem?_getD, List.getD_eq_getElem?_getD, List.getElem?_append_right (by omega), h2]
/-- the rows that are kept -/
theorem GridAt.keep {H' : Hp} {D : Addr} {ps : List Addr} {G : Grid} (P : List Nat → Bool) (k : Nat → Bool) (hl : ps.length = G.length) (hr : ∀ i p, ps[i]? = some p → H' p = some (.lst ((nz (row G i)).map V.int))) (hk : ∀ i, i < G.length → k i = P (row G i))
    (hD : H' D = some (.lst (kept G.length k fun i => .ref (ps.getD i 0)))) : GridAt H' D (G.filter P) := by
  have eG : G = (List.range G.length).map (row G) := by
    apply List.ext_getElem?
    intro j
    by_cases h : j < G.length
    · rw [List.getElem?_map, List.getElem?_range h, at_row h]
      rfl
    · rw [List.getElem?_eq_none (by omega), List.getElem?_eq_none (by rw [List.length_map, List.length_range]; omega)]
  have eF : G.filter P = ((List.range G.length).filter k).map (row G) := by
    conv => lhs; rw [eG]
    rw [List.filter_map]
    congr 1
    apply List.filter_congr
    intro i hi
    rw [List.mem_range] at hi
    exact (hk i hi).symm
  refine ⟨((List.range G.length).filter k).map fun i => ps.getD i 0, ?_, ?_, fun i p e => ?_⟩
  · rw [hD]
    unfold kept
    rw [List.map_map]
    rfl
  · rw [eF, List.length_map, List.length_map]
  · rw [List.getElem?_map] at e
    cases q : ((List.range G.length).filter k)[i]? with
    | none => rw [q] at e; cases e
    | some j =>
      rw [q] at e
      have hj : j < G.length := List.mem_range.mp (List.mem_filter.mp (List.mem_of_getElem? q)).1
      have hx : ps[j]? = some ps[j] := List.getElem?_eq_getElem (by omega)
      have ep : ps.getD j 0 = p := Option.some.inj e
      rw [List.getD_eq_getElem?_getD, hx] at ep
      obtain rfl : ps[j] = p := ep
      rw [hr j _ hx]
      have : row (G.filter P) i = row G j := by
        rw [eF]
        unfold row
        rw [List.getD_eq_getElem?_getD, List.getElem?_map, q]
        rfl
      rw [this]
end
end BC
set_option Elab.async false
set_option linter.all false
set_option maxRecDepth 100000
set_option maxHeartbeats 4000000
/-! A generator that sleeps stays as it is while other code runs: what has no way to run cannot have been woken. -/
namespace SL
open PySem PyProof.Rows
open Sem (wp)
/-- no frame of a generator among them -/
def NF (fs : List Frame) : Prop := ∀ f ∈ fs, match f with | .ret .. => True | .gen .. => False
theorem NF.nil : NF [] := fun f h => nomatch h
theorem NF.tail {f : Frame} {fs : List Frame} (h : NF (f :: fs)) : NF fs := fun g hg => h g (List.mem_cons_of_mem _ hg)
theorem NF.app {as bs : List Frame} (h : NF as) (h' : NF bs) : NF (as ++ bs) := fun g hg => (List.mem_append.mp hg).elim (h g) (h' g)
theorem NF.split : ∀ {fs : List Frame}, NF fs → splitAtGen fs = none
  | [], _ => rfl
  | .gen .. :: _, h => (h _ List.mem_cons_self).elim
  | .ret .. :: rest, h => by
    show (splitAtGen rest).map _ = none
    rw [NF.split (NF.tail h)]; rfl
def NG : GenState → Prop
  | .suspended _ _ _ _ fs _ => NF fs
  | _ => True
def NE : End → Prop
  | .ret _ => True
  | .susp _ _ _ _ _ _ fs => NF fs
theorem NE.gen {e : End} (h : NE e) : NG e.genState := by
  cases e with
  | ret r => trivial
  | susp v g l k c p fs => exact h
/-- what cannot run -/
def blankK : Resume → Sem Fin := fun _ => .unsupported ""
theorem norun0 {M : Model} {Γ : Ctx} {p : Pos} {x : String} {t : Sem Fin} {fs : List Frame} {s s' : Shared} {e : End} (h : Runs M Γ p t fs s e s') (ht : t = .unsupported x) : False := by
  induction h with
  | segRet _ _ ih _ => exact ih ht
  | segGen _ _ ih _ => exact ih ht
  | segSuspOut _ _ ih => exact ih ht
  | segSuspGen _ _ _ _ ih _ => exact ih ht
  | _ => nomatch ht
theorem norun {M : Model} {Γ : Ctx} {p : Pos} {r : Resume} {fs : List Frame} {s s' : Shared} {e : End} (h : Runs M Γ p (blankK r) fs s e s') : False := norun0 h rfl
def Poi (a : GenState) : Prop := ∃ l c p fs cl, a = .suspended blankK l c p fs cl
theorem np_of {M : Model} {Γ : Ctx} {p₀ : Pos} {k₀ : Resume → Sem Fin} {r : Resume} {fs₀ : List Frame} {s s' : Shared} {e : End} (hr : Runs M Γ p₀ (k₀ r) fs₀ s e s') : ∀ l c p cl, ¬ Poi (GenState.suspended k₀ l c p fs₀ cl) := fun l c p cl ⟨_, _, _, _, _, z⟩ => by
  injection z with z1
  rw [z1] at hr
  exact norun hr
/-- the one may stand for the other -/
def Rl (a b : GenState) : Prop := NG a ∧ (a = b ∨ (Poi a ∧ a.seen = b.seen ∧ a.bare = b.bare))
theorem Rl.refl {a : GenState} (h : NG a) : Rl a a := ⟨h, .inl rfl⟩
theorem Rl.seen {a b : GenState} (h : Rl a b) : a.seen = b.seen := by
  rcases h.2 with e | ⟨_, e, _⟩
  · rw [e]
  · exact e
theorem Rl.bare {a b : GenState} (h : Rl a b) : a.bare = b.bare := by
  rcases h.2 with e | ⟨_, _, e⟩
  · rw [e]
  · exact e
structure GR (G S : Array GenState) : Prop where
  sz : G.size = S.size
  rl : ∀ (i : Nat) (a b : GenState), G[i]? = some a → S[i]? = some b → Rl a b
/-- what cannot run has stayed -/
def Kp (G S G' S' : Array GenState) : Prop := ∀ (i : Nat) (a : GenState), G[i]? = some a → Poi a → G'[i]? = some a ∧ S'[i]? = S[i]?
theorem Kp.refl {G S : Array GenState} : Kp G S G S := fun _ _ h _ => ⟨h, rfl⟩
theorem Kp.trans {G S G1 S1 G2 S2 : Array GenState} (x : Kp G S G1 S1) (y : Kp G1 S1 G2 S2) : Kp G S G2 S2 := fun i a h p => by
  obtain ⟨h1, e1⟩ := x i a h p
  obtain ⟨h2, e2⟩ := y i a h1 p
  exact ⟨h2, e2.trans e1⟩
section
variable {G S G' S' : Array GenState} {g : Nat} {a : GenState}
theorem GR.get (h : GR G S) (e : G[g]? = some a) : ∃ b, S[g]? = some b ∧ Rl a b := by
  have hg : g < G.size := (Array.getElem?_eq_some_iff.mp e).1
  have hs : g < S.size := by rw [← h.sz]; exact hg
  exact ⟨S[g], Array.getElem?_eq_getElem hs, h.rl g a _ e (Array.getElem?_eq_getElem hs)⟩
theorem GR.same (h : GR G S) (e : G[g]? = some a) (np : ¬ Poi a) : S[g]? = some a := by
  obtain ⟨b, hb, r⟩ := h.get e
  rcases r.2 with z | ⟨z, _⟩
  · rw [z]; exact hb
  · exact (np z).elim
theorem GR.push (h : GR G S) (x : GenState) (hx : NG x) : GR (G.push x) (S.push x) := by
  refine ⟨by rw [Array.size_push, Array.size_push, h.sz], fun i a b ha hb => ?_⟩
  rw [Array.getElem?_push] at ha hb
  rw [← h.sz] at hb
  by_cases z : i = G.size
  · rw [if_pos z] at ha hb; cases ha; cases hb; exact .refl hx
  · rw [if_neg z] at ha hb; exact h.rl i a b ha hb
theorem Kp.push (h : GR G S) (x : GenState) : Kp G S (G.push x) (S.push x) := fun i a e _ => by
  have hi : i < G.size := (Array.getElem?_eq_some_iff.mp e).1
  have hi' : i ≠ S.size := by rw [← h.sz]; exact Nat.ne_of_lt hi
  constructor
  · rw [Array.getElem?_push, if_neg (Nat.ne_of_lt hi)]; exact e
  · rw [Array.getElem?_push, if_neg hi']
theorem GR.set (h : GR G S) (g : Nat) (x : GenState) (hx : NG x) : GR (G.setIfInBounds g x) (S.setIfInBounds g x) := by
  refine ⟨by rw [Array.size_setIfInBounds, Array.size_setIfInBounds, h.sz], fun i a b ha hb => ?_⟩
  rw [Array.getElem?_setIfInBounds] at ha hb
  rw [← h.sz] at hb
  by_cases z : g = i
  · rw [if_pos z] at ha hb
    by_cases y : g < G.size
    · rw [if_pos y] at ha hb; cases ha; cases hb; exact .refl hx
    · rw [if_neg y] at ha; cases ha
  · rw [if_neg z] at ha hb; exact h.rl i a b ha hb
/-- a state that can run is set anew -/
theorem Kp.set (e : G[g]? = some a) (np : ¬ Poi a) (x : GenState) : Kp G S (G.setIfInBounds g x) (S.setIfInBounds g x) := fun i b hb pb => by
  have z : g ≠ i := fun z => by
    subst z
    rw [e] at hb; cases hb; exact np pb
  exact ⟨by rw [Array.getElem?_setIfInBounds_ne z]; exact hb, by rw [Array.getElem?_setIfInBounds_ne z]⟩
/-- .. behind a run -/
theorem Kp.set2 {a1 : GenState} (h : Kp (G.setIfInBounds g a1) (S.setIfInBounds g a1) G' S') (e : G[g]? = some a) (np : ¬ Poi a) (x : GenState) : Kp G S (G'.setIfInBounds g x) (S'.setIfInBounds g x) := fun i b hb pb => by
  have z : g ≠ i := fun z => by
    subst z
    rw [e] at hb; cases hb; exact np pb
  obtain ⟨h1, h2⟩ := h i b (by rw [Array.getElem?_setIfInBounds_ne z]; exact hb) pb
  exact ⟨by rw [Array.getElem?_setIfInBounds_ne z]; exact h1, by rw [Array.getElem?_setIfInBounds_ne z, h2, Array.getElem?_setIfInBounds_ne z]⟩
end
theorem nPoi_fresh {c : Code} : ¬ Poi (.fresh c) := fun ⟨_, _, _, _, _, h⟩ => nomatch h
theorem nPoi_running : ¬ Poi .running := fun ⟨_, _, _, _, _, h⟩ => nomatch h
theorem nPoi_finished : ¬ Poi .finished := fun ⟨_, _, _, _, _, h⟩ => nomatch h
abbrev wg (s : Shared) (S : Array GenState) : Shared := { s with gens := S }
/-- the same run over other generators, those that could not run left as they are -/
theorem runs_sw {M : Model} {Γ : Ctx} {p : Pos} {t : Sem Fin} {fs : List Frame} {s s' : Shared} {e : End} (h : Runs M Γ p t fs s e s') :
    NF fs → ∀ S, GR s.gens S → ∃ S', GR s'.gens S' ∧ NE e ∧ Kp s.gens S s'.gens S' ∧ Runs M Γ p t fs (wg s S) e (wg s' S') := by
  induction h with
  | done => exact fun _ S hS => ⟨S, hS, trivial, .refl, .done⟩
  | raise => exact fun _ S hS => ⟨S, hS, trivial, .refl, .raise⟩
  | again hq _ ih => exact fun _ S hS => let ⟨S', a, b, c, r⟩ := ih .nil S hS; ⟨S', a, b, c, .again hq r⟩
  | rule _ ih => exact fun _ S hS => let ⟨S', a, b, c, r⟩ := ih .nil S hS; ⟨S', a, b, c, .rule r⟩
  | «at» _ ih => exact fun _ S hS => let ⟨S', a, b, c, r⟩ := ih .nil S hS; ⟨S', a, b, c, .at r⟩
  | load ho _ ih => exact fun _ S hS => let ⟨S', a, b, c, r⟩ := ih .nil S hS; ⟨S', a, b, c, .load ho r⟩
  | update ho _ ih => exact fun _ S hS => let ⟨S', a, b, c, r⟩ := ih .nil S hS; ⟨S', a, b, c, .update ho r⟩
  | loadIfAlive _ ih => exact fun _ S hS => let ⟨S', a, b, c, r⟩ := ih .nil S hS; ⟨S', a, b, c, .loadIfAlive r⟩
  | point _ ih => exact fun _ S hS => let ⟨S', a, b, c, r⟩ := ih .nil S hS; ⟨S', a, b, c, .point r⟩
  | alloc _ ih => exact fun _ S hS => let ⟨S', a, b, c, r⟩ := ih .nil S hS; ⟨S', a, b, c, .alloc r⟩
  | fresh _ ih => exact fun _ S hS => let ⟨S', a, b, c, r⟩ := ih .nil S hS; ⟨S', a, b, c, .fresh r⟩
  | ask _ ih => exact fun _ S hS => let ⟨S', a, b, c, r⟩ := ih .nil S hS; ⟨S', a, b, c, .ask r⟩
  | choose hn _ ih => exact fun _ S hS => let ⟨S', a, b, c, r⟩ := ih .nil S hS; ⟨S', a, b, c, .choose hn r⟩
  | os _ ih => exact fun _ S hS => let ⟨S', a, b, c, r⟩ := ih .nil S hS; ⟨S', a, b, c, .os r⟩
  | handled _ ih => exact fun _ S hS => let ⟨S', a, b, c, r⟩ := ih .nil S hS; ⟨S', a, b, c, .handled r⟩
  | genState hg _ ih =>
    intro _ S hS
    obtain ⟨S', a, b, c, r⟩ := ih .nil S hS
    obtain ⟨y, hy, rl⟩ := hS.get hg
    rw [rl.seen] at r
    exact ⟨S', a, b, c, .genState (s := wg _ S) hy r⟩
  | stack _ ih => exact fun _ S hS => let ⟨S', a, b, c, r⟩ := ih .nil S hS; ⟨S', a, b, c, .stack r⟩
  | thread _ ih => exact fun _ S hS => let ⟨S', a, b, c, r⟩ := ih .nil S hS; ⟨S', a, b, c, .thread r⟩
  | newGen _ ih =>
    intro _ S hS
    obtain ⟨S', a, b, kp, r⟩ := ih .nil (S.push (.fresh _)) (hS.push (.fresh _) trivial)
    rw [hS.sz] at r
    exact ⟨S', a, b, Kp.trans (Kp.push hS _) kp, .newGen r⟩
  | call _ _ ih1 ih2 =>
    intro _ S hS
    obtain ⟨S1, a1, _, c1, r1⟩ := ih1 .nil S hS
    obtain ⟨S2, a2, b2, c2, r2⟩ := ih2 .nil S1 a1
    exact ⟨S2, a2, b2, c1.trans c2, .call r1 r2⟩
  | callSusp _ ih =>
    intro _ S hS
    obtain ⟨S', a, b, c, r⟩ := ih .nil S hS
    exact ⟨S', a, NF.app b (fun f hf => by rw [List.mem_singleton.mp hf]; trivial), c, .callSusp r⟩
  | yield => exact fun _ S hS => ⟨S, hS, .nil, .refl, .yield⟩
  | resumeFresh hg _ hq _ ih1 ih2 =>
    intro _ S hS
    have hs := hS.same hg nPoi_fresh
    obtain ⟨S1, a1, b1, c1, r1⟩ := ih1 .nil _ (hS.set _ .running trivial)
    obtain ⟨S2, a2, b2, c2, r2⟩ := ih2 .nil _ (a1.set _ _ b1.gen)
    exact ⟨S2, a2, b2, (Kp.set2 c1 hg nPoi_fresh _).trans c2, .resumeFresh (s := wg _ S) hs r1 hq r2⟩
  | resumeSuspended hg hr hq _ ih1 ih2 =>
    intro _ S hS
    have np := np_of hr
    have hs := hS.same hg (np _ _ _ _)
    obtain ⟨S1, a1, b1, c1, r1⟩ := ih1 (hS.rl _ _ _ hg hs).1 _ (hS.set _ .running trivial)
    obtain ⟨S2, a2, b2, c2, r2⟩ := ih2 .nil _ (a1.set _ _ b1.gen)
    exact ⟨S2, a2, b2, (Kp.set2 c1 hg (np _ _ _ _) _).trans c2, .resumeSuspended (s := wg _ S) hs r1 hq r2⟩
  | resumeJustStarted hg hv _ ih =>
    intro _ S hS
    obtain ⟨S', a, b, c, r⟩ := ih .nil S hS
    exact ⟨S', a, b, c, .resumeJustStarted (s := wg _ S) (hS.same hg nPoi_fresh) hv r⟩
  | resumeThrowFresh hg _ ih =>
    intro _ S hS
    obtain ⟨S', a, b, c, r⟩ := ih .nil _ (hS.set _ .finished trivial)
    exact ⟨S', a, b, (Kp.set hg nPoi_fresh _).trans c, .resumeThrowFresh (s := wg _ S) (hS.same hg nPoi_fresh) r⟩
  | resumeRunning hg _ ih =>
    intro _ S hS
    obtain ⟨S', a, b, c, r⟩ := ih .nil S hS
    exact ⟨S', a, b, c, .resumeRunning (s := wg _ S) (hS.same hg nPoi_running) r⟩
  | resumeFinished hg _ ih =>
    intro _ S hS
    obtain ⟨S', a, b, c, r⟩ := ih .nil S hS
    exact ⟨S', a, b, c, .resumeFinished (s := wg _ S) (hS.same hg nPoi_finished) r⟩
  | segRet _ _ ih1 ih2 =>
    intro hf S hS
    obtain ⟨S1, a1, _, c1, r1⟩ := ih1 .nil S hS
    obtain ⟨S2, a2, b2, c2, r2⟩ := ih2 hf.tail S1 a1
    exact ⟨S2, a2, b2, c1.trans c2, .segRet r1 r2⟩
  | segGen _ _ _ _ => exact fun hf => (hf _ List.mem_cons_self).elim
  | segSuspOut hsp _ ih =>
    intro hf S hS
    obtain ⟨S', a, b, c, r⟩ := ih .nil S hS
    exact ⟨S', a, NF.app b hf, c, .segSuspOut hsp r⟩
  | segSuspGen hsp _ _ _ _ _ => exact fun hf => by rw [hf.split] at hsp; cases hsp
theorem wakes_sw {M : Model} {Γ : Ctx} {p : Pos} {g : Nat} {r : Resume} {s s' : Shared} {res : GenResult} {S : Array GenState} (h : Wakes M Γ p g r s res s') (hS : GR s.gens S) :
    ∃ S', GR s'.gens S' ∧ Kp s.gens S s'.gens S' ∧ Wakes M Γ p g r (wg s S) res (wg s' S') := by
  unfold Wakes at h
  cases hg : s.gens[g]? with
  | none => rw [hg] at h; exact h.elim
  | some st =>
    rw [hg] at h
    cases st with
    | fresh c =>
      have hs := hS.same hg nPoi_fresh
      have key : ∀ {r : Resume}, (∃ e₁ s₁, Runs M (Γ.wake c p) p (M.den c) [] (s.setGen g .running) e₁ s₁ ∧ e₁.quiet = true ∧ res = e₁.result ∧ s' = s₁.setGen g e₁.genState) →
          ∃ S', GR s'.gens S' ∧ Kp s.gens S s'.gens S' ∧ ∃ e₁ s₁, Runs M (Γ.wake c p) p (M.den c) [] ((wg s S).setGen g .running) e₁ s₁ ∧ e₁.quiet = true ∧ res = e₁.result ∧ wg s' S' = s₁.setGen g e₁.genState := fun {r} h => by
        obtain ⟨e₁, s₁, hr, hq, e1, e2⟩ := h
        obtain ⟨S1, a1, b1, c1, r1⟩ := runs_sw hr .nil _ (hS.set g .running trivial)
        refine ⟨S1.setIfInBounds g e₁.genState, ?_, ?_, e₁, wg s₁ S1, r1, hq, e1, ?_⟩
        · rw [e2]; exact a1.set _ _ b1.gen
        · rw [e2]; exact Kp.set2 c1 hg nPoi_fresh _
        · rw [e2]; rfl
      have hw : ∀ S', (∃ e₁ s₁, Runs M (Γ.wake c p) p (M.den c) [] ((wg s S).setGen g .running) e₁ s₁ ∧ e₁.quiet = true ∧ res = e₁.result ∧ wg s' S' = s₁.setGen g e₁.genState) → r = .send .none → Wakes M Γ p g r (wg s S) res (wg s' S') := fun S' h e => by
        unfold Wakes
        rw [show (wg s S).gens[g]? = S[g]? from rfl, hs]
        rw [e]; exact h
      cases r with
      | throw x =>
        obtain ⟨e1, e2⟩ := h
        refine ⟨S.setIfInBounds g .finished, ?_, ?_, ?_⟩
        · rw [e2]; exact hS.set _ _ trivial
        · rw [e2]; exact Kp.set hg nPoi_fresh _
        · unfold Wakes
          rw [show (wg s S).gens[g]? = S[g]? from rfl, hs]
          rw [e2]; exact ⟨e1, rfl⟩
      | send v =>
        by_cases hv : v = .none
        · subst hv
          obtain ⟨S', q1, q2, q3⟩ := key (r := .send .none) h
          exact ⟨S', q1, q2, hw S' q3 rfl⟩
        · have h' : res = .justStarted ∧ s' = s := by
            cases v <;> first | exact h | exact (hv rfl).elim
          refine ⟨S, by rw [h'.2]; exact hS, by rw [h'.2]; exact .refl, ?_⟩
          unfold Wakes
          rw [show (wg s S).gens[g]? = S[g]? from rfl, hs]
          rw [h'.2]
          cases v <;> first | exact ⟨h'.1, rfl⟩ | exact (hv rfl).elim
    | suspended k₀ l₀ c₀ p₀ fs₀ cl =>
      obtain ⟨e₁, s₁, hr, hq, e1, e2⟩ := h
      have np : ¬ Poi (GenState.suspended k₀ l₀ c₀ p₀ fs₀ cl) := fun ⟨_, _, _, _, _, z⟩ => by
        injection z with z1
        rw [z1] at hr
        exact norun hr
      have hs := hS.same hg np
      have nf : NF fs₀ := (hS.rl _ _ _ hg hs).1
      obtain ⟨S1, a1, b1, c1, r1⟩ := runs_sw hr nf _ (hS.set g .running trivial)
      refine ⟨S1.setIfInBounds g e₁.genState, ?_, ?_, ?_⟩
      · rw [e2]; exact a1.set _ _ b1.gen
      · rw [e2]; exact Kp.set2 c1 hg np _
      · unfold Wakes
        rw [show (wg s S).gens[g]? = S[g]? from rfl, hs]
        exact ⟨e₁, wg s₁ S1, r1, hq, e1, by rw [e2]; rfl⟩
    | running =>
      refine ⟨S, by rw [h.2]; exact hS, by rw [h.2]; exact .refl, ?_⟩
      unfold Wakes
      rw [show (wg s S).gens[g]? = S[g]? from rfl, hS.same hg nPoi_running, h.2]; exact ⟨h.1, rfl⟩
    | finished =>
      refine ⟨S, by rw [h.2]; exact hS, by rw [h.2]; exact .refl, ?_⟩
      unfold Wakes
      rw [show (wg s S).gens[g]? = S[g]? from rfl, hS.same hg nPoi_finished, h.2]; exact ⟨h.1, rfl⟩
theorem wpm {X : Type} {M : Model} {Γ : Ctx} {t : Sem X} {post post' : X → Pos → Shared → Prop} {exc exc' : Value → Pos → Shared → Prop} {p : Pos} {s : Shared} (h1 : ∀ x p' s', post x p' s' → post' x p' s') (h2 : ∀ v p' s', exc v p' s' → exc' v p' s') (h : wp M Γ t post exc p s) : wp M Γ t post' exc' p s :=
  Sem.wp_mono M Γ t h1 h2 p s h
/-- what is wanted behind the run over other generators -/
def Sw {α : Type} (G S : Array GenState) (Q : α → Pos → Shared → Prop) : α → Pos → Shared → Prop := fun a p s1 => ∃ G', GR G' s1.gens ∧ Kp G S G' s1.gens ∧ Q a p (wg s1 G')
theorem Sw.mono {α : Type} {G S G1 S1 : Array GenState} {Q : α → Pos → Shared → Prop} (k : Kp G S G1 S1) {a : α} {p : Pos} {s : Shared} (h : Sw G1 S1 Q a p s) : Sw G S Q a p s := let ⟨G', x, y, z⟩ := h; ⟨G', x, k.trans y, z⟩
theorem wp_sw {α : Type} (M : Model) (Γ : Ctx) (t : Sem α) : ∀ (Q : α → Pos → Shared → Prop) (E : Value → Pos → Shared → Prop) (p : Pos) (s : Shared) (S : Array GenState), GR s.gens S → wp M Γ t Q E p s →
    wp M Γ t (Sw s.gens S Q) (Sw s.gens S E) p (wg s S) := by
  induction t with
  | pure a => intro Q E p s S hS h; exact ⟨s.gens, hS, .refl, h⟩
  | raise e => intro Q E p s S hS h; exact ⟨s.gens, hS, .refl, h⟩
  | unsupported _ => intro Q E p s S _ h; exact h
  | finish _ => intro Q E p s S _ h; exact h
  | rule _ k ih => intro Q E p s S hS h; exact ih () Q E p s S hS h
  | «at» p' k ih => intro Q E p s S hS h; exact ih () Q E p' s S hS h
  | load a _ k ih => intro Q E p s S hS h; obtain ⟨o, ho, h⟩ := h; exact ⟨o, ho, ih o Q E p s S hS h⟩
  | update a _ f k ih => intro Q E p s S hS h; exact ⟨h.1, ih () Q E p { s with heap := s.heap.update a f } S hS h.2⟩
  | loadIfAlive a k ih => intro Q E p s S hS h; exact ih _ Q E p s S hS h
  | point _ k ih => intro Q E p s S hS h; exact ih () Q E p s S hS h
  | register _ _ => intro Q E p s S _ h; exact h
  | alloc o k ih => intro Q E p s S hS h; exact ih _ Q E p { s with heap := s.heap.push o } S hS h
  | fresh k ih => intro Q E p s S hS h; exact ih _ Q E p { s with toks := s.toks + 1 } S hS h
  | ask k ih => intro Q E p s S hS h; exact ih _ Q E p s S hS h
  | choose src m k ih => intro Q E p s S hS h; exact ⟨h.1, ih _ Q E p { s with drawn := s.drawn.bump src } S hS h.2⟩
  | os q _ k ih => intro Q E p s S hS h; exact ih _ Q E p { s with os := (Os.step s.os q).1 } S hS h
  | call c hd _ _ k ih =>
    intro Q E p s S hS h
    obtain ⟨r, s', hr, h⟩ := h
    obtain ⟨S1, a1, _, c1, r1⟩ := runs_sw hr .nil S hS
    exact ⟨r, wg s' S1, r1, wpm (fun _ _ _ x => Sw.mono c1 x) (fun _ _ _ x => Sw.mono c1 x) (ih r Q E p s' S1 a1 h)⟩
  | handled own k ih => intro Q E p s S hS h; exact ih _ Q E p s S hS h
  | genState g k ih =>
    intro Q E p s S hS h
    obtain ⟨st, hs, h⟩ := h
    obtain ⟨y, hy, rl⟩ := hS.get hs
    refine ⟨y, hy, ?_⟩
    rw [← rl.seen]
    exact ih _ Q E p s S hS h
  | newGen c k ih =>
    intro Q E p s S hS h
    have q := ih _ Q E p { s with gens := s.gens.push (.fresh c) } (S.push (.fresh c)) (hS.push _ trivial) h
    show wp M Γ (k S.size) _ _ p _
    rw [← hS.sz]
    exact wpm (fun _ _ _ x => Sw.mono (Kp.push hS _) x) (fun _ _ _ x => Sw.mono (Kp.push hS _) x) q
  | resume g r _ k ih =>
    intro Q E p s S hS h
    obtain ⟨res, s', hw, h⟩ := h
    obtain ⟨S1, a1, c1, w1⟩ := wakes_sw hw hS
    exact ⟨res, wg s' S1, w1, wpm (fun _ _ _ x => Sw.mono c1 x) (fun _ _ _ x => Sw.mono c1 x) (ih res Q E p s' S1 a1 h)⟩
  | yield _ _ _ _ => intro Q E p s S _ h; exact h
  | stack k ih => intro Q E p s S hS h; exact ih _ Q E p s S hS h
  | fork _ _ => intro Q E p s S _ h; exact h
  | thread k ih => intro Q E p s S hS h; exact ih _ Q E p s S hS h
  | await _ _ _ _ _ => intro Q E p s S _ h; exact h
/-! ### all that sleeps is put aside -/
def blankF (f : Frame) : Frame := .ret (fun _ => .unsupported "") none false [] f.where_.1 f.where_.2 []
def blank : GenState → GenState
  | .suspended _ l c p fs cl => .suspended blankK l c p (fs.map blankF) cl
  | x => x
theorem blank_rl (b : GenState) : Rl (blank b) b := by
  cases b with
  | suspended k l c p fs cl =>
    refine ⟨fun f hf => ?_, .inr ⟨⟨_, _, _, _, _, rfl⟩, ?_, rfl⟩⟩
    · obtain ⟨f', _, e⟩ := List.mem_map.mp hf
      subst e; trivial
    · show (GenStatus.suspended, some ((c, p) :: (fs.map blankF).map Frame.where_)) = (GenStatus.suspended, some ((c, p) :: fs.map Frame.where_))
      rw [List.map_map]
      have : (Frame.where_ ∘ blankF) = Frame.where_ := funext fun f => rfl
      rw [this]
  | _ => exact .refl trivial
def Susp : GenState → Prop
  | .suspended .. => True
  | _ => False
theorem blank_poi {b : GenState} (h : Susp b) : Poi (blank b) := by
  cases b with
  | suspended k l c p fs cl => exact ⟨_, _, _, _, _, rfl⟩
  | _ => exact h.elim
theorem blank_gr (G : Array GenState) : GR (G.map blank) G := by
  refine ⟨by simp, fun i a b ha hb => ?_⟩
  rw [Array.getElem?_map, hb] at ha
  cases ha
  exact blank_rl b
theorem allBare_blank {G : Array GenState} (h : AllBare G) : AllBare (G.map blank) := fun y hy => by
  obtain ⟨x, hx, e⟩ := Array.mem_map.mp hy
  subst e
  rw [(blank_rl x).bare]
  exact h x hx
theorem GR.bare {G S : Array GenState} (h : GR G S) (b : AllBare G) : AllBare S := fun y hy => by
  obtain ⟨i, hi, e⟩ := Array.mem_iff_getElem.mp hy
  have hg : i < G.size := by rw [h.sz]; exact hi
  have r := h.rl i _ _ (Array.getElem?_eq_getElem hg) (Array.getElem?_eq_getElem hi)
  rw [← e, ← r.bare]
  exact b _ (Array.getElem_mem hg)
theorem wpAny_sw {α : Type} {M : Model} {A : Around} {t : Sem α} {Q : α → Shared → Prop} {E : Value → Shared → Prop} {s : Shared} {S : Array GenState} (hS : GR s.gens S) (h : wpAny M A t Q E s) :
    wpAny M A t (fun a s1 => ∃ G', GR G' s1.gens ∧ Kp s.gens S G' s1.gens ∧ Q a (wg s1 G')) (fun a s1 => ∃ G', GR G' s1.gens ∧ Kp s.gens S G' s1.gens ∧ E a (wg s1 G')) (wg s S) := fun Γ p hΓ =>
  wpm (fun _ _ _ x => x) (fun _ _ _ x => x) (wp_sw M Γ t _ _ p s S hS (h Γ p hΓ))
/-- other code runs: what sleeps goes on sleeping -/
theorem wpAny_sleep {α : Type} {M : Model} {A : Around} {t : Sem α} {Q : α → Shared → Prop} {E : Value → Shared → Prop} {s : Shared}
    (h : wpAny M A t (fun a s1 => ∀ G1, GR s1.gens G1 → (∀ (i : Nat) (gs : GenState), s.gens[i]? = some gs → Susp gs → G1[i]? = some gs) → Q a (wg s1 G1))
      (fun a s1 => ∀ G1, GR s1.gens G1 → (∀ (i : Nat) (gs : GenState), s.gens[i]? = some gs → Susp gs → G1[i]? = some gs) → E a (wg s1 G1)) (wg s (s.gens.map blank))) : wpAny M A t Q E s := by
  have fin : ∀ {β : Type} {R : β → Shared → Prop} {a : β} {s1 : Shared}, (∃ G', GR G' s1.gens ∧ Kp (s.gens.map blank) s.gens G' s1.gens ∧ ∀ G1, GR G' G1 → (∀ (i : Nat) (gs : GenState), s.gens[i]? = some gs → Susp gs → G1[i]? = some gs) → R a (wg (wg s1 G') G1)) → R a s1 := fun {β R a s1} ⟨G', g1, k1, q⟩ => by
    refine q s1.gens g1 fun i gs e su => ?_
    have e' : (s.gens.map blank)[i]? = some (blank gs) := by rw [Array.getElem?_map, e]; rfl
    rw [(k1 i _ e' (blank_poi su)).2, e]
  exact wpAny_mono (wpAny_sw (s := wg s (s.gens.map blank)) (S := s.gens) (blank_gr s.gens) h) (fun _ _ x => fin x) fun _ _ x => fin x
end SL
set_option Elab.async false
set_option linter.all false
set_option maxRecDepth 100000
set_option maxHeartbeats 4000000
namespace BC
open PySem PySem.Spec PyProof.Rows L2 Evl RZ GenW
/-! ### for, in a generator's body -/
section
variable {X : Cx} {tg iter : Expr} {body : List Stmt} {wi : TI} {g : TG} {tb : TGn} {pos : Pos}
/-- W: the invariant by the turn, a measure and what is out; N: what the body is to reach -/
def tGFor (wi : TI) (g : TG) (tb : TGn) : TGn := fun D ys σ H => wi σ H fun J H1 => ∃ W : Nat → Nat → List V → L2.St → Hp → Prop, (∃ m, W 0 m ys σ H1) ∧ ∀ i m ys σ H, W i m ys σ H →
  (J.stop i H ∧ D.nx ys σ H) ∨ (J.go i H ∧ ∃ N : List V → L2.St → Hp → Prop, (∀ ys' σ' H', N ys' σ' H' → ∃ m', m' < m ∧ W (i + 1) m' ys' σ' H') ∧ ∀ x H', J.yld i H x H' → g x σ H' fun σ2 H2 => tb { D with nx := N, ct := N, bk := D.nx } ys σ2 H2)
end
/-! ### a generator def of the text -/
/-! ### readings -/
def LoopGG (J : It) (g : TG) (tb : TGn) (D : GEnds) (ys : List V) (σ : L2.St) (H1 : Hp) : Prop := ∃ W : Nat → Nat → List V → L2.St → Hp → Prop, (∃ m, W 0 m ys σ H1) ∧ ∀ i m ys σ H, W i m ys σ H →
  (J.stop i H ∧ D.nx ys σ H) ∨ (J.go i H ∧ ∃ N : List V → L2.St → Hp → Prop, (∀ ys' σ' H', N ys' σ' H' → ∃ m', m' < m ∧ W (i + 1) m' ys' σ' H') ∧ ∀ x H', J.yld i H x H' → g x σ H' fun σ2 H2 => tb { D with nx := N, ct := N, bk := D.nx } ys σ2 H2)
section
variable {ys : List V} {σ : L2.St} {H : Hp} {Q : VK} {D : GEnds}
theorem x_gfor {wi : TI} {g : TG} {tb : TGn} : tGFor wi g tb D ys σ H = wi σ H fun J H1 => LoopGG J g tb D ys σ H1 := rfl
theorem x_gplain {t : TS} : tPlain t D ys σ H = t { nx := D.nx ys, rt := D.rt ys, bk := D.bk ys, ct := D.ct ys } σ H := rfl
theorem x_gthen {t u : TGn} : tGThen t u D ys σ H = t { D with nx := fun ys' σ' H' => u D ys' σ' H' } ys σ H := rfl
theorem x_g0 : tG0 D ys σ H = D.nx ys σ H := rfl
theorem x_gyield {te : TE} : tGYield te D ys σ H = (ys.length < sizeLine ∧ te σ H fun x H1 => D.nx (ys ++ [x]) σ H1) := rfl
theorem x_gwhile {c : TT} {tb : TGn} : tGWhile c tb D ys σ H = ∃ W : Nat → List V → L2.St → Hp → Prop, (∃ m, W m ys σ H) ∧ ∀ m ys σ H, W m ys σ H →
  c σ H fun b H1 => if b = true then ∃ N : List V → L2.St → Hp → Prop, (∀ ys' σ' H', N ys' σ' H' → ∃ m', m' < m ∧ W m' ys' σ' H') ∧ tb { D with nx := N, ct := N, bk := D.nx } ys σ H1 else D.nx ys σ H1 := rfl
theorem x_listG {tg : TGen} : tListG tg σ H Q = tg σ H fun out H2 => ∀ p, H2 p = none → Q (.ref p) (upd H2 p (.lst out)) := rfl
theorem x_callG {sp : SpG} {dvs : List V} {E : XK} {t : TA} {cont : List V → Hp → Prop} : tCallG sp dvs E t σ H cont = t σ H fun vs H1 => sp (vs ++ dvs) H1 cont E := rfl
end
end BC
set_option Elab.async false
set_option linter.all false
set_option maxRecDepth 100000
set_option maxHeartbeats 4000000
/-! As GenY, for generators with cells: what a cell holds is forgotten at each yield. -/
namespace SL
open PySem PySem.Spec PyProof.Rows L2 GenW BC Evl
/-- how often a generator is woken at most -/
def genLine : Nat := 1099511627776
/-! ### the entry's heap, as it stands now -/
def cut (n : Nat) (h : Heap) : Heap := { h with objs := Array.ofFn (n := n) fun i => (h.objs[i.val]?).getD { cls := .none, dict := none, data := .freed, slots := #[] } }
theorem cut_size {n : Nat} {h : Heap} : (cut n h).objs.size = n := by unfold cut; simp
theorem cut_get {n : Nat} {h : Heap} {b : Addr} : (cut n h).get? b = if b < n then h.get? b else none := by
  unfold cut Heap.get?
  simp only [Array.getElem?_ofFn]
  by_cases hb : b < n
  · rw [dif_pos hb, if_pos hb]
    cases e : h.objs[b]? with
    | none => simp
    | some o => simp
  · rw [dif_neg hb, if_neg hb]
theorem of_cut {n : Nat} {h : Heap} {b : Addr} {o : Obj} (e : (cut n h).get? b = some o) : b < n ∧ h.get? b = some o := by
  rw [cut_get] at e
  by_cases hb : b < n
  · rw [if_pos hb] at e; exact ⟨hb, e⟩
  · rw [if_neg hb] at e; cases e
theorem cut_of {n : Nat} {h : Heap} {b : Addr} {o : Obj} (hb : b < n) (e : h.get? b = some o) : (cut n h).get? b = some o := by rw [cut_get, if_pos hb]; exact e
/-- the context with the present for its entry -/
abbrev gh (X : Cx) (s₀ : Shared) (Hr : Hp) : Cx := { X with s_0 := { s₀ with heap := cut X.s_0.heap.objs.size s₀.heap }, H_0 := Hr }
/-- the generator's own: its frame, its cells, what is pinned -/
def Own (X : Cx) (ip : List (Addr × Obj)) (b : Addr) : Prop := b = X.env.locals ∨ ∃ p ∈ X.pn ++ ip, p.1 = b
/-- the slots of what has a cell -/
def CellsIn (X : Cx) (ws : List Nat) : Prop := ∀ (i : Nat) (x : Str), X.N[i]? = some x → (∃ c, X.env.cells.lookup x = some c) → i ∈ ws
/-- how it may be woken -/
structure Wk (X : Cx) (ip : List (Addr × Obj)) (s s' : Shared) (H' : Hp) : Prop where
  bare : AllBare s'.gens
  bs : ∀ b o, X.base.get? b = some o → s'.heap.get? b = some o ∧ H' b = none
  funs : s'.heap.FunFrames X.base X.outer
  frf : ∀ b ∈ X.fs, H' b = none
  keep : ∀ b o, Own X ip b → s.heap.get? b = some o → s'.heap.get? b = some o
  free : ∀ b, Own X ip b → H' b = none
  cell : ∀ x c, X.env.cells.lookup x = some c → (∃ v, s'.heap.IsCell c v) ∧ H' c = none
  hok : HOk X.prog X.w H' s'.heap
theorem funs_cut {base h : Heap} {n : Nat} : ∀ {l : List Env}, h.FunFrames base l → (∀ b ∈ frs l, b < n) → (cut n h).FunFrames base l
  | [], _, _ => trivial
  | env :: r, hl, hs => by
    obtain ⟨hk, ⟨L, o, hf, hn, ho, hd⟩, hr⟩ := hl
    have hL : L ∈ frs (env :: r) := by unfold frs; rw [List.filterMap_cons, hf]; exact List.mem_cons_self
    refine ⟨hk, ⟨L, o, hf, hn, cut_of (hs L hL) ho, hd⟩, funs_cut hr fun b hb => hs b ?_⟩
    unfold frs; rw [List.filterMap_cons, hf]; exact List.mem_cons_of_mem _ hb
theorem frs_lt {X : Cx} (ok : X.Ok) : ∀ b ∈ X.fs, b < X.s_0.heap.objs.size := fun b hb => by
  obtain ⟨_, o, ho, _⟩ := ok.funs.mem hb
  exact Heap.lt_size ho
theorem gh_ok {X : Cx} (ok : X.Ok) {s' : Shared} {H' : Hp} (bs : ∀ b o, X.base.get? b = some o → s'.heap.get? b = some o ∧ H' b = none) (funs : s'.heap.FunFrames X.base X.outer) (frf : ∀ b ∈ X.fs, H' b = none) : (gh X s' H').Ok where
  mod := ok.mod
  kind := ok.kind
  glob := ok.glob
  blt := ok.blt
  above := by show (cut _ _).objs.size ≤ _; rw [cut_size]; exact ok.above
  inj := ok.inj
  has := ok.has
  cab := fun x c h1 h2 => by show (cut _ _).objs.size ≤ _; rw [cut_size]; exact ok.cab x c h1 h2
  hd := ok.hd
  frames := ok.frames
  stk := ok.stk
  exf := ok.exf
  bs := fun b o e => ⟨cut_of (Nat.lt_of_lt_of_le (Heap.lt_size e) ok.bsz) (bs b o e).1, (bs b o e).2⟩
  bsz := by show _ ≤ (cut _ _).objs.size; rw [cut_size]; exact ok.bsz
  noex := ok.noex
  exfs := ok.exfs
  funs := funs_cut funs (frs_lt ok)
  frf := frf
/-- it is woken -/
theorem reent {X : Cx} (ok : X.Ok) {s1 s s' : Shared} {H1 H H' : Hp} {ip : List (Addr × Obj)} {σ : L2.St} {ws : List Nat} (hws : CellsIn X ws) (I : Inv { X with s_0 := s1, H_0 := H1 } ip σ H s) (w : Wk X ip s s' H') : Inv (gh X s' H') ip (wipe σ ws) H' s' where
  ok := gh_ok ok w.bs w.funs w.frf
  os := rfl
  bare := w.bare
  base := Un.kept fun b u q => (of_cut q).2
  loc := by
    obtain ⟨m, hn, hl⟩ := I.loc
    obtain ⟨o, es, ep, ho, r⟩ := hn
    refine ⟨m, ⟨o, es, ep, w.keep _ _ (.inl rfl) ho, r⟩, fun i x v e1 e2 e3 => ?_⟩
    obtain ⟨e2, nws⟩ := wipe_some e2
    obtain ⟨u, ru, lk⟩ := hl i x v e1 e2 e3
    refine ⟨u, ru, ?_⟩
    rcases lk with lk | ⟨k, c, e, oc, hoc, hdc⟩
    · exact .inl lk
    · exact (nws (hws i x e1 ⟨c, e⟩)).elim
  cell := fun x c e => (w.cell x c e).1
  free := w.free _ (.inl rfl)
  freeC := fun x c e => (w.cell x c e).2
  pin := fun p hp => by
    obtain ⟨h1, h2, h3, h4, h5⟩ := I.pin p hp
    exact ⟨w.keep _ _ (.inr ⟨p, hp, rfl⟩) h1, w.free _ (.inr ⟨p, hp, rfl⟩), h3, h4, h5⟩
  hok := w.hok
  len := by rw [wipe_length]; exact I.len
/-- what is tracked stays tracked -/
def Dom (H H' : Hp) : Prop := ∀ b, H b ≠ none → H' b ≠ none
theorem Dom.refl {H : Hp} : Dom H H := fun _ h => h
theorem Dom.trans {H H1 H2 : Hp} (x : Dom H H1) (y : Dom H1 H2) : Dom H H2 := fun b h => y b (x b h)
theorem Dom.of {H H' : Hp} (e : Ex H H') : Dom H H' := fun b h => by
  cases q : H b with
  | none => exact (h q).elim
  | some o => rw [e b o q]; exact fun z => nomatch z
theorem Dom.fx {p : Addr} {o : HO} {H H' : Hp} (f : Fx p H H') (h : H' p = some o) : Dom H H' := fun b hb => by
  by_cases z : b = p
  · rw [z, h]; exact fun z => nomatch z
  · cases q : H b with
    | none => exact (hb q).elim
    | some u => rw [f b u z q]; exact fun z => nomatch z
theorem Dom.put {p : Addr} {o : HO} {H : Hp} : Dom H (upd H p o) := Dom.fx Fx.put upd_same
theorem Dom.none {H H' : Hp} {b : Addr} (d : Dom H H') (h : H' b = none) : H b = none := by
  cases q : H b with
  | none => rfl
  | some o => exact (d b (by rw [q]; exact fun z => nomatch z) h).elim
/-! ### the judgements -/
/-- what is wanted: at a yield (its number, the heap at the last waking, the value, the heap, the part of it that must stand), behind a statement -/
structure YE where
  yl : Nat → Hp → V → Hp → Hp → Prop
  nx : Nat → Hp → L2.St → Hp → Prop
  rt : Nat → Hp → VK
  bk : Nat → Hp → L2.St → Hp → Prop := fun _ _ _ _ => False
  ct : Nat → Hp → L2.St → Hp → Prop := fun _ _ _ _ => False
abbrev TY := YE → Nat → Hp → L2.St → Hp → Prop
def YE.at (D : YE) (i : Nat) (Hr : Hp) : Ends := { nx := D.nx i Hr, rt := D.rt i Hr, bk := D.bk i Hr, ct := D.ct i Hr }
abbrev CW := Nat → Shared → Hp → Prop
/-- the protocol: C holds of the state and the heap at each waking -/
def YP (X : Cx) (C : CW) (yl : Nat → Hp → V → Hp → Hp → Prop) : Protocol := fun n s₀ v s kap =>
  ∃ i x ip Hr σ H K, n + 1 + i = genLine ∧ RelV x v ∧ Inv (gh X s₀ Hr) ip σ H s ∧ C i s₀ Hr ∧ yl i Hr x H K ∧ ∀ s' H', Wk X ip s s' H' → C (i + 1) s' H' → Ex K H' → Dom H H' → kap (.send .none) s' ∧ kap (.send (.int 0 0)) s'
def YF (X : Cx) (C : CW) (z : Nat → Hp → Hp → Prop) (n : Nat) (s₀ s : Shared) : Prop := ∃ i Hr ip σ H, n + i = genLine ∧ Inv (gh X s₀ Hr) ip σ H s ∧ C i s₀ Hr ∧ z i Hr H
def YR (X : Cx) (C : CW) (z : Nat → Hp → Hp → Prop) : GenEnd := fun n s₀ r s => ((r = .ok (.ret .none) ∨ r = .ok .next) ∧ YF X C z n s₀ s) ∨ ∃ e, r = .error e ∧ False
structure YC (X : Cx) (A : Around) (c : Code) (fs : List Frame) (gd : Bool → Bool) : Prop where
  ok : X.Ok
  nox : ∀ e s, ¬ X.xe e s
  over : A.over c fs = X.A
  split : splitAtGen fs = none
  guard : fs.any Frame.guarded = false
  gd : gd false = false
def YSP (X : Cx) (s₀ : Shared) (Hr : Hp) (ip : List (Addr × Obj)) (D : YE) (i : Nat) (f : Flow) (s : Shared) : Prop := SP (gh X s₀ Hr) ip (D.at i Hr) f s
abbrev YK (X : Cx) (C : CW) (ip : List (Addr × Obj)) (A : Around) (R : GenEnd) (c : Code) (fs : List Frame) (Kc : Flow → Sem PySem.Fin) (D : YE) : Prop :=
  ∀ (n i : Nat) (s₀ : Shared) (Hr : Hp) (s : Shared) (f : Flow), n + i = genLine → C i s₀ Hr → YSP X s₀ Hr ip D i f s → Seg (model X.prog X.w) A R (YP X C D.yl) n s₀ c (Kc f) fs s
structure YS (X : Cx) (st : Stmt) (t : TY) : Prop where
  run : ∀ (A : Around) (ip : List (Addr × Obj)) (C : CW) (R : GenEnd) (n i : Nat) (s₀ : Shared) (Hr : Hp) (c : Code) (fs : List Frame) (Kc : Flow → Sem PySem.Fin) (J : Value → Sem PySem.Fin) (gd : Bool → Bool) (lv : List Value → List Value) (s : Shared) (σ : L2.St) (H : Hp) (D : YE),
    YC X A c fs gd → n + i = genLine → YK X C ip A R c fs Kc D → Inv (gh X s₀ Hr) ip σ H s → C i s₀ Hr → t D i Hr σ H →
    Seg (model X.prog X.w) A R (YP X C D.yl) n s₀ c ((exec st X.env).wrap Kc J gd lv) fs s
structure YSs (X : Cx) (st : List Stmt) (t : TY) : Prop where
  run : ∀ (A : Around) (ip : List (Addr × Obj)) (C : CW) (R : GenEnd) (n i : Nat) (s₀ : Shared) (Hr : Hp) (c : Code) (fs : List Frame) (Kc : Flow → Sem PySem.Fin) (J : Value → Sem PySem.Fin) (gd : Bool → Bool) (lv : List Value → List Value) (s : Shared) (σ : L2.St) (H : Hp) (D : YE),
    YC X A c fs gd → n + i = genLine → YK X C ip A R c fs Kc D → Inv (gh X s₀ Hr) ip σ H s → C i s₀ Hr → t D i Hr σ H →
    Seg (model X.prog X.w) A R (YP X C D.yl) n s₀ c ((execs st X.env).wrap Kc J gd lv) fs s
section
variable {X : Cx} {st : Stmt} {rest : List Stmt}
def tYPlain (t : TS) : TY := fun D i Hr σ H => t (D.at i Hr) σ H
theorem ys_ps {t : TS} (h : ∀ s₀ Hr, PS (gh X s₀ Hr) st t) : YS X st (tYPlain t) := by
  refine ⟨fun A ip C R n i s₀ Hr c fs Kc J gd lv s σ H D g hn k I hC ht => ?_⟩
  refine seg_wrap ?_
  rw [g.over]
  exact wpAny_mono ((h s₀ Hr).run _ s σ H (D.at i Hr) I ht) (fun f s' hs => k n i s₀ Hr s' f hn hC hs) fun x s' hx => (g.nox x s' hx).elim
def tY0 : TY := fun D i Hr σ H => D.nx i Hr σ H
theorem yss_nil : YSs X [] tY0 := by
  refine ⟨fun A ip C R n i s₀ Hr c fs Kc J gd lv s σ H D g hn k I hC ht => ?_⟩
  exact seg_execs_nil (k n i s₀ Hr s .next hn hC ⟨σ, H, I, ht⟩)
def tYThen (t u : TY) : TY := fun D i Hr σ H => t { D with nx := fun i' Hr' σ' H' => u D i' Hr' σ' H' } i Hr σ H
theorem yss_cons {t u : TY} (a : YS X st t) (b : YSs X rest u) : YSs X (st :: rest) (tYThen t u) := by
  refine ⟨fun A ip C R n i s₀ Hr c fs Kc J gd lv s σ H D g hn k I hC ht => ?_⟩
  refine seg_execs_cons ?_
  refine a.run A ip C R n i s₀ Hr c fs _ J gd lv s σ H { D with nx := fun i' Hr' σ' H' => u D i' Hr' σ' H' } g hn (fun n' i' s₀' Hr' s' f hn' hC' hs => ?_) I hC ht
  cases f with
  | next =>
    obtain ⟨σ', H', I', q⟩ := hs
    exact b.run A ip C R n' i' s₀' Hr' c fs Kc J gd lv s' σ' H' D g hn' k I' hC' q
  | brk => exact k n' i' s₀' Hr' s' .brk hn' hC' hs
  | cont => exact k n' i' s₀' Hr' s' .cont hn' hC' hs
  | ret u => exact k n' i' s₀' Hr' s' (.ret u) hn' hC' hs
/-! ### yield -/
def tYYield (ws : List Nat) (te : TE) : TY := fun D i Hr σ H => i < genLine ∧ te σ H fun x H1 => ∃ K, D.yl i Hr x H1 K ∧ ∀ H2, Ex K H2 → Dom H1 H2 → D.nx (i + 1) H2 (wipe σ ws) H2
theorem ys_yield {e : Expr} {yp pos : Pos} {te : TE} {ws : List Nat} (hws : CellsIn X ws) (he : ∀ s₀ Hr, PE (gh X s₀ Hr) e te) (hco : X.env.scope.isCoroutine = false := by rfl) (hi : interactive X.env = false := by rfl) : YS X (.Expr (.Yield (some e) yp) pos) (tYYield ws te) := by
  refine ⟨fun A ip C R n i s₀ Hr c fs Kc J gd lv s σ H D g hn k I hC ht => ?_⟩
  obtain ⟨hlt, ht⟩ := ht
  obtain ⟨n, rfl⟩ : ∃ m, n = m + 1 := ⟨n - 1, by omega⟩
  refine seg_Expr_Yield g.split g.gd g.guard ?_ hco hi
  rw [g.over]
  refine wpAny_mono ((he s₀ Hr).run _ s σ H _ I ht) (fun v s' hv => ?_) fun x s' hx => (g.nox x s' hx).elim
  obtain ⟨x, H1, I1, rv, K, hy, hk⟩ := hv
  intro kap hkap
  refine ⟨i, x, ip, Hr, σ, H1, K, by omega, rv, I1, hC, hy, fun s'' H2 w hC2 hK hD => ?_⟩
  have q := k n (i + 1) s'' H2 s'' .next (by omega) hC2 ⟨wipe σ ws, H2, reent g.ok hws I1 w, hk H2 hK hD⟩
  exact ⟨hkap .none s'' q, hkap (.int 0 0) s'' q⟩
/-! ### loops -/
theorem yc_loop {A : Around} {c c' : Code} {fs : List Frame} {gd : Bool → Bool} {k : Result → Sem PySem.Fin} {l kp : List Value} {p : Pos} (g : YC X A c fs gd) (hw : c'.weight = 0) (hu : c'.cUnits = 0) :
    YC X A c' (.ret k none (gd false) l c p kp :: fs) id where
  ok := g.ok
  nox := g.nox
  over := (over_loop hw hu).trans g.over
  split := by
    show (splitAtGen fs).map _ = none
    rw [g.split]; rfl
  guard := by
    show (gd false || fs.any Frame.guarded) = false
    rw [g.gd, g.guard]; rfl
  gd := rfl
def tYWhile (c : TT) (tb : TY) : TY := fun D i Hr σ H => ∃ W : Nat → Nat → Hp → L2.St → Hp → Prop, (∃ m, W m i Hr σ H) ∧ ∀ m i Hr σ H, W m i Hr σ H →
  c σ H fun b H1 => if b = true then ∃ N : Nat → Hp → L2.St → Hp → Prop, (∀ i' Hr' σ' H', N i' Hr' σ' H' → ∃ m', m' < m ∧ W m' i' Hr' σ' H') ∧ tb { D with nx := N, ct := N, bk := D.nx } i Hr σ H1 else D.nx i Hr σ H1
theorem ys_while {test : Expr} {body : List Stmt} {pos : Pos} {tc : TT} {tb : TY} (hc : ∀ s₀ Hr, PT (gh X s₀ Hr) test tc) (hb : YSs X body tb) : YS X (.While test body [] pos) (tYWhile tc tb) := by
  refine ⟨fun A ip C R n i s₀ Hr c fs Kc J gd lv s σ H D g hn k I hC ht => ?_⟩
  obtain ⟨W, ⟨m0, w0⟩, turn⟩ := ht
  refine seg_While fun p => ?_
  have gl := fun (kk : Result → Sem PySem.Fin) => yc_loop (k := kk) (c' := .whileLoop test body [] X.env) (l := lv []) (kp := []) (p := p) g rfl rfl
  have loop : ∀ (m n i : Nat) (s₀ : Shared) (Hr : Hp) (s : Shared) (σ : L2.St) (H : Hp), n + i = genLine → W m i Hr σ H → Inv (gh X s₀ Hr) ip σ H s → C i s₀ Hr →
      Seg (model X.prog X.w) A R (YP X C D.yl) n s₀ (.whileLoop test body [] X.env) ((model X.prog X.w).den (.whileLoop test body [] X.env))
        (.ret (fun r => ((match r with | .ok f => (.pure f : Sem Flow) | .error e => .raise e).onRaise (cameBack X.env)).wrap Kc J gd lv) none (gd false) (lv []) c p [] :: fs) s := by
    intro m
    induction m using Nat.strongRecOn with
    | ind m ih =>
      intro n i s₀ Hr s σ H hn w I hC
      refine seg_whileLoop ?_
      rw [(gl _).over]
      refine wpAny_mono ((hc s₀ Hr).run _ s σ H _ I (turn m i Hr σ H w)) (fun b s' hb' => ?_) fun x s' hx => (g.nox x s' hx).elim
      obtain ⟨H2, I2, q2⟩ := hb'
      cases b with
      | true =>
        obtain ⟨N, hN, q2⟩ := q2
        rw [if_pos rfl]
        refine hb.run A ip C R n i s₀ Hr _ _ _ _ id id s' σ H2 { D with nx := N, ct := N, bk := D.nx } (gl _) hn (fun n' i' s₀' Hr' s3 f hn' hC' hs => ?_) I2 hC q2
        cases f with
        | next =>
          obtain ⟨σ3, H3, I3, n3⟩ := hs
          obtain ⟨m', hm, w3⟩ := hN i' Hr' σ3 H3 n3
          exact seg_again rfl (ih m' hm n' i' s₀' Hr' s3 σ3 H3 hn' w3 I3 hC')
        | cont =>
          obtain ⟨σ3, H3, I3, n3⟩ := hs
          obtain ⟨m', hm, w3⟩ := hN i' Hr' σ3 H3 n3
          exact seg_again rfl (ih m' hm n' i' s₀' Hr' s3 σ3 H3 hn' w3 I3 hC')
        | brk => exact seg_leaf (.ok .next) (k n' i' s₀' Hr' s3 .next hn' hC' hs)
        | ret v => exact seg_leaf (.ok (.ret v)) (k n' i' s₀' Hr' s3 (.ret v) hn' hC' hs)
      | false =>
        rw [if_neg Bool.false_ne_true]
        refine seg_execs_nil ?_
        exact seg_leaf (.ok .next) (k n i s₀ Hr s' .next hn hC ⟨σ, H2, I2, q2⟩)
  exact loop m0 n i s₀ Hr s σ H hn w0 I hC
def tYFor (wi : TI) (g : TG) (tb : TY) : TY := fun D i Hr σ H => wi σ H fun J H1 => ∃ W : Nat → Nat → Nat → Hp → L2.St → Hp → Prop, (∃ m, W 0 m i Hr σ H1) ∧ ∀ j m i Hr σ H, W j m i Hr σ H →
  (J.stop j H ∧ D.nx i Hr σ H) ∨ (J.go j H ∧ ∃ N : Nat → Hp → L2.St → Hp → Prop, (∀ i' Hr' σ' H', N i' Hr' σ' H' → ∃ m', m' < m ∧ W (j + 1) m' i' Hr' σ' H') ∧ ∀ x H', J.yld j H x H' → g x σ H' fun σ2 H2 => tb { D with nx := N, ct := N, bk := D.nx } i Hr σ2 H2)
end
end SL
set_option Elab.async false
set_option linter.all false
set_option maxRecDepth 100000
set_option maxHeartbeats 4000000
/-! for x in g(..): the consumer's rule; a generator def's promise by its body. -/
namespace SL
open PySem PySem.Spec PyProof.Rows L2 GenW BC Evl
/-! ### exceptions, whatever sleeps -/
def XeOk (X : Cx) : Prop := ∀ (e : Value) (s : Shared) (G : Array GenState), GR s.gens G → X.xe e s → X.xe e (wg s G)
theorem xe_of {M : Model} {A : Around} {t : Sem Unit} {C D : Value → Shared → Prop} {e : Value} {s : Shared} {G : Array GenState} (hC : ∀ e s G, GR s.gens G → C e s → C e (wg s G)) (hD : ∀ e s G, GR s.gens G → D e s → D e (wg s G)) (g : GR s.gens G)
    (h : wpAny M A t (fun _ s' => C e s') (fun e' s' => D e' s') s) : wpAny M A t (fun _ s' => C e s') (fun e' s' => D e' s') (wg s G) :=
  wpAny_mono (wpAny_sw g h) (fun _ s' ⟨G', g', _, q⟩ => hC e (wg s' G') s'.gens g' q) fun e' s' ⟨G', g', _, q⟩ => hD e' (wg s' G') s'.gens g' q
theorem cx_sw {P : Program} {w : World} {outer : List Env} {H : Hp} {s0 : Shared} {E : XK} : ∀ e s G, GR s.gens G → L2.CX P w outer H s0 E e s → L2.CX P w outer H s0 E e (wg s G) := fun e s G g h => by
  obtain ⟨a, B, H', cls, d, z1, fl, z2, ub, z3, z4, z5, z6⟩ := h
  exact ⟨a, B, H', cls, d, z1, fl, z2, ub, z3, z4, g.bare z5, z6⟩
theorem xeok_cx {P : Program} {w : World} {K : PySem.W.Frag} {mg : Str → Option Value} {base : Heap} {N : List Str} {qual : Str} {scope : Scope} {f : Addr} {cd : Value} {A : Around} {outer : List Env} {s : Shared} {H : Hp} {E : XK} : XeOk (cxOf (L2.CX P w) P w K mg base N qual scope f cd A outer s H E) := fun e s' G g h => xe_of cx_sw cx_sw g h
theorem xeok_cx0 {P : Program} {w : World} {K : PySem.W.Frag} {mg : Str → Option Value} {base : Heap} {N : List Str} {qual : Str} {scope : Scope} {f : Addr} {cd : Value} {A : Around} {outer : List Env} {s : Shared} {H : Hp} {E : XK} : XeOk (cxOf L2.CX0 P w K mg base N qual scope f cd A outer s H E) := fun e s' G g h => xe_of (fun _ _ _ _ q => q) (fun _ _ _ _ q => q) g h
theorem Inv.gens {X : Cx} {pins : List (Addr × Obj)} {σ : L2.St} {H : Hp} {s : Shared} {G : Array GenState} (I : Inv X pins σ H s) (h : AllBare G) : Inv X pins σ H (wg s G) :=
  ⟨I.ok, I.os, h, I.base, I.loc, I.cell, I.free, I.freeC, I.pin, I.hok, I.len⟩
/-! ### the consumer's heap, and the generator's view of it: without its cells -/
def isC (c : Addr) : HO := .ext fun h => ∃ v, h.IsCell c v
theorem isC_ok {P : Program} {w : World} {H : Hp} {h : Heap} {c : Addr} (e : ∃ v, h.IsCell c v) : ObjOk P w H h c (isC c) := by
  refine ⟨e, ?_, fun h1 h2 ⟨v, o, ho, hd⟩ k => ⟨v, o, k o ho, hd⟩⟩
  obtain ⟨v, o, ho, _⟩ := e
  exact ⟨o, ho⟩
structure Vw (Cs : Addr → Prop) (Hr Hc : Hp) : Prop where
  on : ∀ b, Cs b → Hr b = none ∧ Hc b = some (isC b)
  off : ∀ b, ¬ Cs b → Hr b = Hc b
open Classical in
noncomputable def add (Cs : Addr → Prop) (H : Hp) : Hp := fun b => if Cs b then some (isC b) else H b
open Classical in
noncomputable def del (Cs : Addr → Prop) (H : Hp) : Hp := fun b => if Cs b then none else H b
/-- the consumer's heaps Hc, H1c and the generator's views Hr, H1 of them -/
def Lk (Hr H1 Hc H1c : Hp) : Prop := ∀ b o, Hc b = some o → (Hr b = some o ∧ ∀ u, H1 b = some u → H1c b = some u) ∨ H1c b = some o
section
variable {P : Program} {w : World} {Cs : Addr → Prop} {H Hr Hc H1 H1c : Hp} {h : Heap}
theorem vw_add (hn : ∀ b, Cs b → H b = none) : Vw Cs H (add Cs H) := ⟨fun b c => ⟨hn b c, by unfold add; rw [if_pos c]⟩, fun b c => by unfold add; rw [if_neg c]⟩
theorem vw_del (hn : ∀ b, Cs b → H b = some (isC b)) : Vw Cs (del Cs H) H := ⟨fun b c => ⟨by unfold del; rw [if_pos c], hn b c⟩, fun b c => by unfold del; rw [if_neg c]⟩
theorem Vw.no (v : Vw Cs Hr Hc) {b : Addr} {o : HO} (e : Hr b = some o) : ¬ Cs b := fun c => by rw [(v.on b c).1] at e; cases e
theorem Vw.no' (v : Vw Cs Hr Hc) {b : Addr} {o : HO} (e : Hc b = some o) (n : ∀ φ, o ≠ .ext φ) : ¬ Cs b := fun c => by rw [(v.on b c).2] at e; exact n _ (Option.some.inj e).symm
theorem Vw.none (v : Vw Cs Hr Hc) {b : Addr} (e : Hc b = none) : Hr b = none := by
  by_cases c : Cs b
  · exact (v.on b c).1
  · rw [v.off b c]; exact e
theorem Vw.up (v : Vw Cs Hr Hc) : Ex Hr Hc := fun b o e => by rw [← v.off b (v.no e)]; exact e
theorem Vw.ex (v : Vw Cs Hr Hc) (v1 : Vw Cs H1 H1c) (e : Ex Hr H1) : Ex Hc H1c := fun b o q => by
  by_cases c : Cs b
  · rw [(v.on b c).2] at q; rw [(v1.on b c).2]; exact q
  · rw [← v1.off b c]; exact e b o (by rw [v.off b c]; exact q)
theorem Vw.lk (v : Vw Cs Hr Hc) (v1 : Vw Cs H1 H1c) : Lk Hr H1 Hc H1c := fun b o q => by
  by_cases c : Cs b
  · rw [(v.on b c).2] at q
    exact .inr (by rw [(v1.on b c).2]; exact q)
  · exact .inl ⟨by rw [v.off b c]; exact q, fun u e => v1.up _ _ e⟩
theorem Vw.okUp (v : Vw Cs H Hc) (ok : HOk P w H h) (hc : ∀ b, Cs b → ∃ v, h.IsCell b v) : HOk P w Hc h := fun a o e => by
  by_cases c : Cs a
  · rw [(v.on a c).2] at e
    cases e
    exact isC_ok (hc a c)
  · rw [← v.off a c] at e
    exact (ok a o e).stay (fun _ _ _ q => q) (fun b q => v.up _ _ q) fun b xs q => v.up _ _ q
theorem Vw.okDown (v : Vw Cs H Hc) (ok : HOk P w Hc h) : HOk P w H h := fun a o e =>
  (ok a o (v.up _ _ e)).stay (fun _ _ _ q => q) (fun b q => by rw [v.off b (v.no' q fun φ z => nomatch z)]; exact q) fun b xs q => by rw [v.off b (v.no' q fun φ z => nomatch z)]; exact q
end
/-! ### a generator def's promise -/
/-- the context of its body -/
abbrev gcxY (P : Program) (w : World) (K : PySem.W.Frag) (mg : Str → Option Value) (base : Heap) (N : List Str) (qual : Str) (scope : Scope) (f : Addr) (cd : Value) (A : Around) (outer : List Env) (s : Shared) (H : Hp) (pn : List (Addr × Obj)) : Cx :=
  { cxOf (L2.CX P w) P w K mg base N qual scope f cd A outer s H E0 with pn := pn, xe := fun _ _ => False }
abbrev SpY := List V → Hp → (Nat → Hp → V → Hp → Hp → Prop) → (Nat → Hp → Hp → Prop) → Prop
/-- a generator that has not begun -/
def GMadeY (P : Program) (w : World) (K : PySem.W.Frag) (mg : Str → Option Value) (base : Heap) (k : Nat) (outer : List Env) (H : Hp) (s : Shared) (yl : Nat → Hp → V → Hp → Hp → Prop) (z : Nat → Hp → Hp → Prop) (u : Value) (s' : Shared) : Prop :=
  ∃ (a : Addr) (g : Nat) (c : Code) (N : List Str) (qual : Str) (scope : Scope) (f : Addr) (cd : Value) (go : Obj), u = .ref a ∧ s.heap.objs.size ≤ a ∧ (∀ h : Heap, h.get? a = some go → h.IsGen a g) ∧ s'.heap.get? a = some go ∧
    s'.gens[g]? = some (.fresh c) ∧ s'.os = s.os ∧ AllBare s'.gens ∧ s'.heap.NoLimit ∧ (∀ b o, s.heap.get? b = some o → s'.heap.get? b = some o) ∧ (∀ x c, (cellsFrom (s.heap.objs.size + 1) scope.names []).lookup x = some c → s.heap.objs.size ≤ c ∧ ∃ v, s'.heap.IsCell c v) ∧
    ∀ (A : Around) (C : CW) (s2 : Shared), Room k A → A.frames = some outer → (∀ b o, s'.heap.get? b = some o → s2.heap.get? b = some o) → s2.os = s.os → AllBare s2.gens → C 0 s2 H →
      (gcxY P w K mg base N qual scope f cd A outer s H [(a, go)]).Ok ∧ Seg (model P w) A (YR (gcxY P w K mg base N qual scope f cd A outer s H [(a, go)]) C z) (YP (gcxY P w K mg base N qual scope f cd A outer s H [(a, go)]) C yl) genLine s2 c ((model P w).den c) [] s2
structure GFnY (P : Program) (w : World) (K : PySem.W.Frag) (mg : Str → Option Value) (base : Heap) (k : Nat) (f : Addr) (fd : FuncData) (ps : List Str) (sp : SpY) : Prop where
  len : ∀ vs H yl z, sp vs H yl z → vs.length = ps.length
  run : ∀ (A : Around) (outer : List Env) (s : Shared) (H : Hp) (args : Args) (us : List Value) (vs : List V) (yl : Nat → Hp → V → Hp → Hp → Prop) (z : Nat → Hp → Hp → Prop), Room k A → Env0 P w K mg base A outer s H → BindsTo s fd args (ps.zip us) → Vals vs us → sp vs H yl z →
    codeAny (model P w) A (.call (.ref f) args) (fun r s' => match r with | .ok (.ret u) => GMadeY P w K mg base k outer H s yl z u s' | _ => False) s
/-! ### the consumer's heap behind a turn of the generator -/
theorem sync {Xc X : Cx} {pins ip : List (Addr × Obj)} {σc σ : L2.St} {Hr Hc H Hn : Hp} {Cs : Addr → Prop} {s₀ s : Shared} (Ic : Inv Xc pins σc Hc s₀) (Ig : Inv (gh X s₀ Hr) ip σ H s) (v0 : Vw Cs Hr Hc) (v1 : Vw Cs H Hn) (ho : X.outer = Xc.stack) (hex : X.ex = []) (hok : HOk Xc.prog Xc.w Hn s.heap)
    (b0 : Xc.s_0.heap.objs.size ≤ X.s_0.heap.objs.size) (b1 : Xc.env.locals < X.s_0.heap.objs.size) (b2 : ∀ x c, Xc.env.cells.lookup x = some c → c < X.s_0.heap.objs.size) (b3 : ∀ p ∈ Xc.pn ++ pins, p.1 < X.s_0.heap.objs.size) : Inv Xc pins σc Hn s := by
  have young : ∀ {b}, b ∈ (List.range s₀.heap.objs.size).filter (fun b => decide (X.s_0.heap.objs.size ≤ b)) → X.s_0.heap.objs.size ≤ b := fun h => of_decide_eq_true (List.mem_filter.mp h).2
  have old : ∀ {b o}, s₀.heap.get? b = some o → b ∉ (List.range s₀.heap.objs.size).filter (fun b => decide (X.s_0.heap.objs.size ≤ b)) → b < X.s_0.heap.objs.size := fun {b o} e h => by
    by_cases z : X.s_0.heap.objs.size ≤ b
    · exact (h (List.mem_filter.mpr ⟨List.mem_range.mpr (Heap.lt_size e), decide_eq_true z⟩)).elim
    · exact Nat.lt_of_not_le z
  have nx : ∀ b, b ∉ X.ex := fun b h => by rw [hex] at h; cases h
  refine Ic.call' (ch := (List.range s₀.heap.objs.size).filter fun b => decide (X.s_0.heap.objs.size ≤ b)) Ig.os ⟨fun b o e n hb hx => ?_, fun b o e n hb hx => ?_, fun b o e n hx => ?_, fun b o e hx => ?_, fun b xs q => v1.up _ _ (Ig.base.tups b xs (show Hr b = _ by rw [v0.off b (v0.no' q fun φ z => nomatch z)]; exact q)), fun b o u q => v1.up _ _ (Ig.base.frzs b o u (show Hr b = _ by rw [v0.off b (v0.no' q fun φ z => nomatch z)]; exact q)),
    fun b ps q => let ⟨more, e⟩ := Ig.base.tbls b ps (show Hr b = _ by rw [v0.off b (v0.no' q fun φ z => nomatch z)]; exact q); ⟨more, v1.up _ _ e⟩⟩ hok Ig.bare fun b hb => ?_
  · exact Ig.base.keep b o (cut_of (old e hx) e) (v0.none n) (by show b ∉ frs X.outer; rw [ho]; exact hb) (nx b)
  · exact Ig.base.slot b o (cut_of (old e hx) e) (v0.none n) (by show b ∈ frs X.outer; rw [ho]; exact hb) (nx b)
  · have nc : ¬ Cs b := fun c => by rw [(v0.on b c).2] at n; cases n
    rw [← v1.off b nc]
    exact Ig.base.free b o (cut_of (old e hx) e) (v0.none n) (nx b)
  · exact Ig.base.there b o (cut_of (old e hx) e) (nx b)
  · have y := young hb
    refine ⟨.inr (Nat.le_trans b0 y), Nat.ne_of_gt (Nat.lt_of_lt_of_le b1 y), fun x c e => Nat.ne_of_lt (Nat.lt_of_lt_of_le (b2 x c e) y), fun p hp => Nat.ne_of_lt (Nat.lt_of_lt_of_le (b3 p hp) y)⟩
/-- the generator's own things, pinned while it sleeps -/
def gpins (X : Cx) (ip : List (Addr × Obj)) (h : Heap) : List (Addr × Obj) := pinsAt (X.env.locals :: (X.pn ++ ip).map (·.1)) h
theorem gpins_ok {Xc X : Cx} {ip : List (Addr × Obj)} {σ : L2.St} {Hr H : Hp} {s₀ s : Shared} (Ig : Inv (gh X s₀ Hr) ip σ H s) (ok : X.Ok) (ho : X.outer = Xc.stack) (hs : Xc.stack = Xc.env :: Xc.outer) (hf : Xc.env.frame = some Xc.env.locals) (b1 : Xc.env.locals < X.s_0.heap.objs.size) :
    ∀ p ∈ gpins X ip s.heap, s.heap.get? p.1 = some p.2 ∧ H p.1 = none ∧ p.1 ≠ Xc.env.locals ∧ p.1 ∉ Xc.fs ∧ ∀ v, p.2.data ≠ .cell v := fun p hp => by
  obtain ⟨hm, e⟩ := of_pinsAt hp
  have sub : ∀ b ∈ Xc.fs, b ∈ X.fs := fun b hb => by
    show b ∈ frs X.outer
    rw [ho, hs]
    unfold frs
    rw [List.filterMap_cons, hf]
    exact List.mem_cons_of_mem _ hb
  have own : Xc.env.locals ∈ X.fs := by
    show _ ∈ frs X.outer
    rw [ho, hs]
    unfold frs
    rw [List.filterMap_cons, hf]
    exact List.mem_cons_self
  rcases List.mem_cons.mp hm with z | z
  · obtain ⟨m, ⟨o, es, ep, hos, hd, _⟩, _⟩ := Ig.loc
    have hos : s.heap.get? X.env.locals = some o := hos
    rw [← z, e] at hos; cases hos
    refine ⟨e, by rw [z]; exact Ig.free, by rw [z]; exact Nat.ne_of_gt (Nat.lt_of_lt_of_le b1 ok.above), fun hb => ?_, fun v q => by rw [hd] at q; cases q⟩
    have := frs_lt ok _ (sub _ hb)
    rw [z] at this
    exact absurd (Nat.lt_of_lt_of_le this ok.above) (Nat.lt_irrefl _)
  · obtain ⟨q, hq, eq⟩ := List.mem_map.mp z
    obtain ⟨h1, h2, h3, h4, h5⟩ := Ig.pin q hq
    have e2 : q.2 = p.2 := by
      rw [← eq, h1] at e
      exact Option.some.inj e
    rw [← e2, ← eq]
    exact ⟨h1, h2, fun y => h4 (y ▸ own), fun hb => h4 (sub _ hb), h5⟩
/-! ### the rule -/
abbrev TGY := L2.St → Hp → (Nat → Hp → V → Hp → Hp → Prop) → (Nat → Hp → Hp → Prop) → (Hp → Prop) → Prop
structure PGenY (X : Cx) (k : Nat) (e : Expr) (tg : TGY) : Prop where
  run : ∀ (pins : List (Addr × Obj)) (s : Shared) (σ : L2.St) (H : Hp) (yl : Nat → Hp → V → Hp → Hp → Prop) (z : Nat → Hp → Hp → Prop) (start : Hp → Prop), Inv X pins σ H s → tg σ H yl z start → wpAny (model X.prog X.w) X.A (eval e X.env)
    (fun u s' => ∃ H1 sc, Inv X pins σ H1 sc ∧ GMadeY X.prog X.w X.K X.mg X.base k X.stack H1 sc yl z u s' ∧ start H1) X.xe s
def tForY (tgY : TGY) (g : TG) (tb : TS) : TS := fun D σ H => ∃ W : Nat → L2.St → Hp → Prop,
  tgY σ H (fun i Hr x H1 K => Ex K H1 ∧ ∀ σ Hc H1c K', W i σ Hc → Ex H1 H1c → Lk Hr H1 Hc H1c → Ex K' H1c → (∀ b o, K' b = some o → K b = some o ∨ (H1 b = none ∧ ∃ φ, o = .ext φ)) →
      g x σ H1c fun σ2 H2 => tb { D with nx := fun σ3 H3 => W (i + 1) σ3 H3 ∧ Ex K' H3 ∧ Dom H1c H3, ct := fun σ3 H3 => W (i + 1) σ3 H3 ∧ Ex K' H3 ∧ Dom H1c H3, bk := D.nx } σ2 H2)
    (fun i Hr H1 => ∀ σ Hc H1c, W i σ Hc → Ex H1 H1c → Lk Hr H1 Hc H1c → D.nx σ H1c) (fun H1 => ∀ Hc, Ex H1 Hc → W 0 σ Hc)
theorem ps_forY {X : Cx} {k : Nat} {tg iter : Expr} {body : List Stmt} {tgY : TGY} {g : TG} {tb : TS} {pos : Pos} (hp : PassesOwn (model X.prog X.w) X.A X.env X.xe) (hx : XeOk X) (hc : X.calm = true) (hst : X.stack = X.env :: X.outer) (hfr : X.env.frame = some X.env.locals) (hr : Room (k + 1) X.A)
    (hi : PGenY X k iter tgY) (hg : PG X tg g) (hb : PSs X body tb) (hs : ∀ x, foldedSetIterable iter X.env x = pure x := by intro _; rfl) : PS X (.For tg iter body [] pos) (tForY tgY g tb) := by
  refine ⟨fun pins s σ H D I h => ?_⟩
  obtain ⟨W, h⟩ := h
  refine wpAny_For (thn (hi.run pins s σ H _ _ _ I h) fun u s1 h1 => ?_) hs
  obtain ⟨H1, sc, Isc, ⟨a, gn, c, N, qual, scope, f, cd, go, rfl, ha, hgo, hea, hgs, hos, hba, hl, hkp, hcell, wake⟩, w0⟩ := h1
  refine wpAny_pyIter_gen (hgo _ hea) ?_
  -- what is older than the generator
  have b0 := Isc.sz
  have b1 := Isc.lt
  have b2 : ∀ x c, X.env.cells.lookup x = some c → c < sc.heap.objs.size := fun x c e => by
    obtain ⟨v, q⟩ := Isc.cell x c e
    exact q.lt
  have b3 : ∀ p ∈ X.pn ++ pins, p.1 < sc.heap.objs.size := fun p hp => Heap.lt_size (Isc.pin p hp).1
  -- the generator's cells, tracked
  let Cs : Addr → Prop := fun b => ∃ x, (cellsFrom (sc.heap.objs.size + 1) scope.names []).lookup x = some b
  have hCs : ∀ b, Cs b → H1 b = none := fun b ⟨x, e⟩ => Isc.hok.fresh (hcell x b e).1
  have v1 : Vw Cs H1 (add Cs H1) := vw_add hCs
  have hcs : ∀ b, Cs b → ∃ v, s1.heap.IsCell b v := fun b ⟨x, e⟩ => (hcell x b e).2
  have I1 : Inv X pins σ (add Cs H1) s1 := Isc.call' (ch := []) hos ⟨fun b o e _ _ _ => hkp b o e, fun b o e _ _ _ => ⟨o.slots, hkp b o e⟩, fun b o e n _ => by
      have nc : ¬ Cs b := fun ⟨x, c⟩ => absurd (Nat.lt_of_lt_of_le (Heap.lt_size e) (hcell x b c).1) (Nat.lt_irrefl _)
      rw [← v1.off b nc]
      exact n, fun b o e _ => ⟨o, hkp b o e⟩, fun b xs e => v1.up _ _ e, fun b o u e => v1.up _ _ e, fun b ps e => ⟨#[], by rw [v1.up _ _ e]; simp⟩⟩ (v1.okUp (Isc.hok.kept hkp) hcs) hba fun b hb => by cases hb
  -- what holds at each waking
  let C : CW := fun i s H => s.heap.get? a = some go ∧ ∃ σ Hc, Inv X pins σ Hc s ∧ W i σ Hc ∧ Vw Cs H Hc
  have C0 : C 0 (s1.setGen gn .running) H1 := ⟨hea, σ, add Cs H1, Inv.gens (G := (s1.setGen gn .running).gens) I1 (allBare_setGen hba rfl), w0 _ v1.up, v1⟩
  obtain ⟨okX, seg⟩ := wake X.A.in1 C (s1.setGen gn .running) (Room.in1 hr) Isc.ok.frames (fun _ _ e => e) hos (allBare_setGen hba rfl) C0
  generalize eX : gcxY X.prog X.w X.K X.mg X.base N qual scope f cd X.A.in1 X.stack sc H1 [(a, go)] = Xg at okX seg
  have n0 : Xg.s_0.heap.objs.size = sc.heap.objs.size := by subst eX; rfl
  have ho : Xg.outer = X.stack := by subst eX; rfl
  have hex : Xg.ex = [] := by subst eX; rfl
  have hbs : Xg.base = X.base := by subst eX; rfl
  have hpn : Xg.pn = [(a, go)] := by subst eX; rfl
  have hcl : ∀ b, Cs b ↔ ∃ x, Xg.env.cells.lookup x = some b := fun b => by subst eX; exact Iff.rfl
  have hok : ∀ {s₀ : Shared} {Hr H : Hp} {ip : List (Addr × Obj)} {σ : L2.St} {s : Shared}, Inv (gh Xg s₀ Hr) ip σ H s → HOk X.prog X.w H s.heap := fun I => by
    have q := I.hok
    subst eX
    exact q
  have hhk : ∀ {H : Hp} {h : Heap}, HOk X.prog X.w H h → HOk Xg.prog Xg.w H h := fun q => by subst eX; exact q
  have b0' : X.s_0.heap.objs.size ≤ Xg.s_0.heap.objs.size := by rw [n0]; exact b0
  have b1' : X.env.locals < Xg.s_0.heap.objs.size := by rw [n0]; exact b1
  have b2' : ∀ x c, X.env.cells.lookup x = some c → c < Xg.s_0.heap.objs.size := fun x c e => by rw [n0]; exact b2 x c e
  have b3' : ∀ p ∈ X.pn ++ pins, p.1 < Xg.s_0.heap.objs.size := fun p hp => by rw [n0]; exact b3 p hp
  let Zn : Nat → Hp → Hp → Prop := fun i Hr H1 => ∀ σ Hc H1c, W i σ Hc → Ex H1 H1c → Lk Hr H1 Hc H1c → D.nx σ H1c
  let Yn : Nat → Hp → V → Hp → Hp → Prop := fun i Hr x H1 K => Ex K H1 ∧ ∀ σ Hc H1c K', W i σ Hc → Ex H1 H1c → Lk Hr H1 Hc H1c → Ex K' H1c → (∀ b o, K' b = some o → K b = some o ∨ (H1 b = none ∧ ∃ φ, o = .ext φ)) →
      g x σ H1c fun σ2 H2 => tb { D with nx := fun σ3 H3 => W (i + 1) σ3 H3 ∧ Ex K' H3 ∧ Dom H1c H3, ct := fun σ3 H3 => W (i + 1) σ3 H3 ∧ Ex K' H3 ∧ Dom H1c H3, bk := D.nx } σ2 H2
  refine codeAny_forLoop_any (fun m s' => ∃ i σ' H' gs, Inv X pins σ' H' s' ∧ W i σ' H' ∧ s'.heap.get? a = some go ∧ s'.gens[gn]? = some gs ∧
    gs.Goes (model X.prog X.w) X.A.in1 (YR Xg C Zn) (YP Xg C Yn) m (.send .none) (s'.setGen gn .running)) ?_ genLine
    ⟨0, σ, add Cs H1, _, I1, w0 _ v1.up, hea, hgs, rfl, seg⟩
  rintro m s3 ⟨i3, σ3, H3, gs, I3, w3, ea3, eg3, go3⟩
  have hgl : gn < s3.gens.size := (Array.getElem?_eq_some_iff.mp eg3).1
  have hdp : X.A.depth < recursionLimit := by have := hr.dp; omega
  refine wpAny_gsz (n := gn + 1) hgl (next_genG (F := fun n s₀ s => YF Xg C Zn n s₀ s) (Er := fun _ _ => False) (n := m) (I3.ok.hd hc) I3.nolimit hdp (hgo _ ea3) eg3 go3 (fun v s₁ gs' hbare hv hsz => ?_) (fun s₁ hf h' hk hsz => ?_) fun _ _ q => q.elim)
  · -- an item
    obtain ⟨i, x, ip, Hr, σg, H4, Kp, hn, rv, Ig, ⟨ea4, σ4, Hc, I4, w4, vc⟩, ⟨hKp, hy⟩, hw⟩ := hv
    have hn4 : ∀ b, Cs b → H4 b = none := fun b c => let ⟨x, e⟩ := (hcl b).mp c; Ig.freeC x b e
    have hc4 : ∀ b, Cs b → ∃ v, s₁.heap.IsCell b v := fun b c => let ⟨x, e⟩ := (hcl b).mp c; Ig.cell x b e
    have v4 : Vw Cs H4 (add Cs H4) := vw_add hn4
    have hKn : ∀ b, Cs b → Kp b = none := fun b c => by
      cases q : Kp b with
      | none => rfl
      | some o => have := hKp b o q; rw [hn4 b c] at this; cases this
    have vK : Vw Cs Kp (add Cs Kp) := vw_add hKn
    have Is : Inv X pins σ4 (add Cs H4) s₁ := sync I4 Ig vc v4 ho hex (v4.okUp (hok Ig) hc4) b0' b1' b2' b3'
    have ea5 : s₁.heap.get? a = some go := (Ig.pin (a, go) (List.mem_append_left _ (by show _ ∈ Xg.pn; rw [hpn]; exact List.mem_singleton.mpr rfl))).1
    have Ip : Inv X (pins ++ gpins Xg ip s₁.heap) σ4 (add Cs H4) s₁ := Is.pins_of fun p hp => (List.mem_append.mp hp).elim (fun z => Is.pin p (List.mem_append_right _ z)) fun z => by
      obtain ⟨g1, g2, g3, g4, g5⟩ := gpins_ok Ig okX ho hst hfr b1' p z
      refine ⟨g1, ?_, g3, g4, g5⟩
      rw [← v4.off p.1 fun c => ?_]
      · exact g2
      · obtain ⟨v, o, e1, e2⟩ := hc4 _ c
        rw [g1] at e1
        cases e1
        exact g5 _ e2
    have Ip' : Inv X (pins ++ gpins Xg ip s₁.heap) σ4 (add Cs H4) (s₁.setGen gn gs') := Inv.gens (G := (s₁.setGen gn gs').gens) Ip (allBare_setGen Ig.bare hbare)
    obtain ⟨go1, nm, qn, ho1, hc1, hd1, hs1⟩ := hgo _ ea5
    refine wpAny_passesOwn hp (go_of (o := go1) (n := "generator") ho1 hc1 hd1 (by decide) ?_)
    -- the way back
    have mem : ∀ {b : Addr}, Own Xg ip b → b ∈ Xg.env.locals :: (Xg.pn ++ ip).map (·.1) := fun {b} h => by
      rcases h with h | ⟨q, hq, h⟩
      · rw [h]; exact List.mem_cons_self
      · exact List.mem_cons_of_mem _ (List.mem_map.mpr ⟨q, hq, h⟩)
    have there : ∀ {b : Addr}, Own Xg ip b → ∃ o, s₁.heap.get? b = some o := fun {b} h => by
      rcases h with h | ⟨q, hq, h⟩
      · obtain ⟨_, ⟨o, _, _, e, _⟩, _⟩ := Ig.loc
        exact ⟨o, by rw [h]; exact e⟩
      · exact ⟨q.2, by rw [← h]; exact (Ig.pin q hq).1⟩
    have finN : ∀ {σ7 : L2.St} {H7 : Hp} {s7 : Shared}, Inv X (pins ++ gpins Xg ip s₁.heap) σ7 H7 s7 → (W (i + 1) σ7 H7 ∧ Ex (add Cs Kp) H7 ∧ Dom (add Cs H4) H7) → (Susp gs' → s7.gens[gn]? = some gs') → ∃ m', m' < m ∧ ∃ i σ' H' gs, Inv X pins σ' H' s7 ∧ W i σ' H' ∧ s7.heap.get? a = some go ∧ s7.gens[gn]? = some gs ∧
        gs.Goes (model X.prog X.w) X.A.in1 (YR Xg C Zn) (YP Xg C Yn) m' (.send .none) (s7.setGen gn .running) := fun {σ7 H7 s7} I7 hW hS => by
      have pinned : ∀ {b o}, Own Xg ip b → s₁.heap.get? b = some o → s7.heap.get? b = some o ∧ H7 b = none := fun {b o} h e => by
        obtain ⟨q1, q2, _⟩ := I7.pin (b, o) (List.mem_append_right _ (List.mem_append_right _ (mem_pinsAt (mem h) e)))
        exact ⟨q1, q2⟩
      have h7c : ∀ b, Cs b → H7 b = some (isC b) := fun b c => hW.2.1 b _ (vK.on b c).2
      have v7 : Vw Cs (del Cs H7) H7 := vw_del h7c
      have hwk : Wk Xg ip s₁ (s7.setGen gn .running) (del Cs H7) := by
        refine ⟨allBare_setGen I7.bare rfl, fun b o e => let ⟨q1, q2⟩ := I7.bs b o (by rw [← hbs]; exact e); ⟨q1, v7.none q2⟩, ?_, fun b hb => v7.none (I7.stkFree b (by rw [← ho]; exact hb)), fun b o h e => (pinned h e).1, fun b h => ?_, fun x c e => ?_, hhk (v7.okDown I7.hok)⟩
        · rw [hbs, ho]; exact I7.stack
        · obtain ⟨o, e⟩ := there h
          exact v7.none (pinned h e).2
        · have cc : Cs c := (hcl c).mpr ⟨x, e⟩
          have q : ObjOk X.prog X.w H7 s7.heap c (isC c) := I7.hok c _ (h7c c cc)
          exact ⟨q.1, (v7.on c cc).1⟩
      have oa : Own Xg ip a := .inr ⟨(a, go), List.mem_append_left _ (by rw [hpn]; exact List.mem_singleton.mpr rfl), rfl⟩
      have ea7 := (pinned oa ea5).1
      have I7u : Inv X pins σ7 H7 s7 := I7.unpinned
      have hK7 : Ex Kp (del Cs H7) := fun b o e => by
        have nc : ¬ Cs b := fun c => by rw [hKn b c] at e; cases e
        rw [v7.off b nc]
        exact hW.2.1 b o (vK.up _ _ e)
      have hD7 : Dom H4 (del Cs H7) := fun b e => by
        have nc : ¬ Cs b := fun c => e (hn4 b c)
        rw [v7.off b nc]
        exact hW.2.2 b (by rw [← v4.off b nc]; exact e)
      obtain ⟨k1, k2⟩ := hw (s7.setGen gn .running) (del Cs H7) hwk ⟨ea7, σ7, H7, Inv.gens (G := (s7.setGen gn .running).gens) I7u (allBare_setGen I7.bare rfl), hW.1, v7⟩ hK7 hD7
      cases m with
      | zero => exact k1.elim
      | succ m =>
        have sus : Susp gs' := by
          cases gs' with
          | fresh c' => exact absurd k2.1 (by intro q; injection q with q; cases q)
          | suspended _ _ _ _ _ _ => trivial
          | running => exact k1.elim
          | finished => exact k1.elim
        exact ⟨m, Nat.lt_succ_self m, i + 1, σ7, H7, gs', I7u, hW.1, ea7, hS sus, k1⟩
    have body : ∀ (s6 : Shared) (σ6 : L2.St) (H6 : Hp), Inv X (pins ++ gpins Xg ip s₁.heap) σ6 H6 s6 → (Susp gs' → s6.gens[gn]? = some gs') → tb { D with nx := fun σ3 H3 => W (i + 1) σ3 H3 ∧ Ex (add Cs Kp) H3 ∧ Dom (add Cs H4) H3, ct := fun σ3 H3 => W (i + 1) σ3 H3 ∧ Ex (add Cs Kp) H3 ∧ Dom (add Cs H4) H3, bk := D.nx } σ6 H6 →
        wpAny (model X.prog X.w) X.A (execs body X.env) (fun fl s7 => SP X (pins ++ gpins Xg ip s₁.heap) { D with nx := fun σ3 H3 => W (i + 1) σ3 H3 ∧ Ex (add Cs Kp) H3 ∧ Dom (add Cs H4) H3, ct := fun σ3 H3 => W (i + 1) σ3 H3 ∧ Ex (add Cs Kp) H3 ∧ Dom (add Cs H4) H3, bk := D.nx } fl s7 ∧ (Susp gs' → s7.gens[gn]? = some gs')) X.xe s6 := fun s6 σ6 H6 I6 hS q6 =>
      wpAny_sleep (wpAny_mono (hb.run _ (wg s6 (s6.gens.map blank)) σ6 H6 _ (Inv.gens I6 (allBare_blank I6.bare)) q6) (fun fl s7 h7 G2 gr2 ks2 => by
        refine ⟨?_, fun su => ks2 gn gs' (hS su) su⟩
        cases fl with
        | next => obtain ⟨σ7, H7, I7, q7⟩ := h7; exact ⟨σ7, H7, Inv.gens I7 (gr2.bare I7.bare), q7⟩
        | cont => obtain ⟨σ7, H7, I7, q7⟩ := h7; exact ⟨σ7, H7, Inv.gens I7 (gr2.bare I7.bare), q7⟩
        | brk => obtain ⟨σ7, H7, I7, q7⟩ := h7; exact ⟨σ7, H7, Inv.gens I7 (gr2.bare I7.bare), q7⟩
        | ret v => obtain ⟨x7, σ7, H7, I7, r7, q7⟩ := h7; exact ⟨x7, σ7, H7, Inv.gens I7 (gr2.bare I7.bare), r7, q7⟩) fun e s' hxe G1 gr _ => hx e s' G1 gr hxe)
    have hKd : ∀ b o, add Cs Kp b = some o → Kp b = some o ∨ (H4 b = none ∧ ∃ φ, o = .ext φ) := fun b o e => by
      by_cases c : Cs b
      · rw [(vK.on b c).2] at e
        exact .inr ⟨hn4 b c, _, (Option.some.inj e).symm⟩
      · rw [← vK.off b c] at e
        exact .inl e
    have hat : (s₁.setGen gn gs').gens[gn]? = some gs' := setGen_at (by rw [setGen_size] at hsz; exact hsz)
    refine wpAny_passesOwn hp (wpAny_sleep (wpAny_mono (hg.run _ (wg (s₁.setGen gn gs') ((s₁.setGen gn gs').gens.map blank)) σ4 (add Cs H4) x v _ (Inv.gens Ip' (allBare_blank Ip'.bare)) rv (hy σ4 Hc (add Cs H4) (add Cs Kp) w4 v4.up (vc.lk v4) (vK.ex v4 hKp) hKd)) (fun _ s6 h6 G1 gr ks => ?_) fun e s' hxe G1 gr _ => hx e s' G1 gr hxe))
    obtain ⟨σ6, H6, I6, q6⟩ := h6
    refine wpAny_passesOwn hp (wpAny_mono (body (wg s6 G1) σ6 H6 (Inv.gens I6 (gr.bare I6.bare)) (fun su => ks gn gs' hat su) q6) (fun fl s7 ⟨h7, hS⟩ => ?_) fun _ _ q => q)
    cases fl with
    | next => obtain ⟨σ7, H7, I7, q7⟩ := h7; exact finN I7 q7 hS
    | cont => obtain ⟨σ7, H7, I7, q7⟩ := h7; exact finN I7 q7 hS
    | brk => obtain ⟨σ7, H7, I7, q7⟩ := h7; exact ⟨σ7, H7, I7.unpinned, q7⟩
    | ret v => obtain ⟨x7, σ7, H7, I7, r7, q7⟩ := h7; exact ⟨x7, σ7, H7, I7.unpinned, r7, q7⟩
  · -- the end
    obtain ⟨i, Hr, ip, σg, H4, hn, Ig, ⟨ea4, σ4, Hc, I4, w4, vc⟩, hz⟩ := hf
    have hn4 : ∀ b, Cs b → H4 b = none := fun b c => let ⟨x, e⟩ := (hcl b).mp c; Ig.freeC x b e
    have hc4 : ∀ b, Cs b → ∃ v, s₁.heap.IsCell b v := fun b c => let ⟨x, e⟩ := (hcl b).mp c; Ig.cell x b e
    have v4 : Vw Cs H4 (add Cs H4) := vw_add hn4
    have Is : Inv X pins σ4 (add Cs H4) s₁ := sync I4 Ig vc v4 ho hex (v4.okUp (hok Ig) hc4) b0' b1' b2' b3'
    have Ie : Inv X pins σ4 (add Cs H4) { s₁.setGen gn .finished with heap := h' } := Is.call' (ch := []) rfl (Un.kept hk) (Is.hok.kept hk) (allBare_setGen Is.bare rfl) fun b hb => by cases hb
    exact wpAny_execs_nil ⟨σ4, add Cs H4, Ie, hz σ4 Hc _ w4 v4.up (vc.lk v4)⟩
end SL
set_option Elab.async false
set_option linter.all false
set_option maxRecDepth 100000
set_option maxHeartbeats 4000000
/-! A generator def's promise for any consumer, by its body; its calls. -/
namespace SL
open PySem PySem.Spec PyProof.Rows L2 GenW BC Evl
/-- what is wanted of exceptions plays no part in the invariant -/
theorem reXe {X : Cx} {xe : Value → Shared → Prop} {pins : List (Addr × Obj)} {σ : L2.St} {H : Hp} {s : Shared} (I : Inv X pins σ H s) : Inv { X with xe := xe } pins σ H s :=
  ⟨⟨I.ok.mod, I.ok.kind, I.ok.glob, I.ok.blt, I.ok.above, I.ok.inj, I.ok.has, I.ok.cab, I.ok.hd, I.ok.frames, I.ok.stk, I.ok.exf, I.ok.bs, I.ok.bsz, I.ok.noex, I.ok.exfs, I.ok.funs, I.ok.frf⟩,
    I.os, I.bare, I.base, I.loc, I.cell, I.free, I.freeC, I.pin, I.hok, I.len⟩
/-- its own present as its entry -/
theorem rebase {X : Cx} {ip : List (Addr × Obj)} {σ : L2.St} {H : Hp} {s : Shared} (I : Inv X ip σ H s) (hf : ∀ b ∈ X.fs, H b = none) : Inv (gh X s H) ip σ H s where
  ok := gh_ok I.ok (fun b o e => I.bs b o e) I.funs hf
  os := rfl
  bare := I.bare
  base := Un.kept fun b u q => (of_cut q).2
  loc := I.loc
  cell := I.cell
  free := I.free
  freeC := I.freeC
  pin := I.pin
  hok := I.hok
  len := I.len
section
variable {P : Program} {w : World} {K : PySem.W.Frag} {mg : Str → Option Value} {base : Heap} {k : Nat}
theorem gfnY_of {f : Addr} {name qual : Str} {params : Arguments} {body : List Stmt} {scope : Scope} {dV kV doc pm cdv ct oc : Value} {an od : Option Addr} {osl : Array (Option Value)} {N ps : List Str} {sp : SpY}
    (lk : K.lookup f = some ⟨oc, od, .func (PySem.W.fnOf name qual params body scope dV kV doc pm an cdv ct), osl⟩) (hcd : PySem.W.codeIn K cdv qual = true) (S : GScope N ps scope)
    (len : ∀ vs H yl z, sp vs H yl z → vs.length = ps.length)
    (hbody : ∀ (A : Around) (outer : List Env) (s : Shared) (H : Hp) (vs : List V) (yl : Nat → Hp → V → Hp → Hp → Prop) (z : Nat → Hp → Hp → Prop) (pn : List (Addr × Obj)), Room k (A.deeper (envOfC qual scope s.heap.objs.size f cdv)) → sp vs H yl z →
      ∃ t, YSs (gcxY P w K mg base N qual scope f cdv A outer s H pn) body t ∧ t { yl := yl, nx := fun i Hr _ H' => z i Hr H', rt := fun i Hr v H' => v = .non ∧ z i Hr H' } 0 H (start N vs) H) :
    GFnY P w K mg base (k + 1) f (PySem.W.fnOf name qual params body scope dV kV doc pm an cdv ct) ps sp := by
  refine ⟨len, fun A outer s H args us vs yl z hr e0 hb r hsp => ?_⟩
  have hl := len _ _ _ _ hsp
  have kinS : K.In s.heap := e0.mod.kin.keeps (fun b o e => (e0.bs b o e).1)
  have limS : s.heap.NoLimit := e0.mod.nolimit.keeps (fun b o e => (e0.bs b o e).1)
  have kinds : ∀ y ∈ ps.zip us, scope.names.lookup y.1 = some .local ∨ (scope.names.lookup y.1 = some .cell ∧ ((cellsFrom (s.heap.objs.size + 1) scope.names []).lookup y.1).isSome = true) := by
    rintro ⟨n, v⟩ hy
    have hn := (List.of_mem_zip hy).1
    rcases S.par n hn with q | q
    · exact Or.inl q
    · exact Or.inr ⟨q, PySem.W.cellsFrom_some _ _ _ (Or.inl q)⟩
  refine codeAny_call_generator hr.depth (kinS _ _ lk) rfl S.co S.gen rfl (PySem.W.codeRec_of kinS hcd) (hb _ _ _ _ ?_)
  refine wpAny_newFunctionEnv_cells S.kind kinds (fun env he s1 x => ?_)
  subst he
  have x0 := x
  refine ⟨limS.keeps x.toInCall.keep, ?_⟩
  have kp1 : ∀ b o, s.heap.get? b = some o → s1.heap.get? b = some o := x.toInCall.keep
  obtain ⟨h1, tk, es1, _⟩ := x.done
  have os1 : s1.os = s.os := by rw [es1]
  have gen1 : s1.gens = s.gens := by rw [es1]
  have lt1 : s.heap.objs.size < s1.heap.objs.size := x.toInCall.ns.lt
  have bare1 : AllBare s1.gens := by rw [gen1]; exact e0.bare
  have main : ∀ (go : Obj) (nm qn : Value) (tk2 : Nat), go.cls = .type "generator" → go.data = .fields #[.int s1.gens.size 0, nm, qn] → go.slots = #[] → (∀ h : Heap, (h.push go).get? h.objs.size = some go) →
      GMadeY P w K mg base (k + 1) outer H s yl z (.ref s1.heap.objs.size) { s1 with gens := s1.gens.push (.fresh (.func body (envOfC qual scope s.heap.objs.size f cdv))), toks := tk2, heap := s1.heap.push go } := by
    intro go nm qn tk2 c1 c2 c3 c4
    have old : ∀ b o, s1.heap.get? b = some o → (s1.heap.push go).get? b = some o := fun b o e => Heap.get?_push_of_some _ e
    have bare2 : AllBare (s1.gens.push (.fresh (.func body (envOfC qual scope s.heap.objs.size f cdv)))) := AllBare.push bare1 rfl
    refine ⟨s1.heap.objs.size, s1.gens.size, _, N, qual, scope, f, cdv, go, rfl, Nat.le_of_lt lt1, fun h e => ⟨go, nm, qn, e, c1, c2, c3⟩, c4 _, Array.getElem?_push_size .., os1, bare2, (limS.keeps kp1).keeps old, fun b o e => old b o (kp1 b o e), fun x c e => ?_, ?_⟩
    · obtain ⟨ob, e1, e2⟩ := x0.cell x c e
      exact ⟨Nat.le_of_lt (x0.above x c (PySem.W.mem_lookup e)), _, ob, old _ _ e1, e2⟩
    intro Aw C s2 hrw hfr kp2 hos hba hC
    have e1 : Env0 P w K mg base Aw outer s H := ⟨hfr, e0.mod, e0.bs, e0.bsz, e0.funs, e0.frf, e0.hok, e0.bare⟩
    have I1 : Inv (gcxOf P w K mg base N qual scope f cdv Aw outer s H E0 []) [] (start N vs) H s1 := inv_startG S hrw.hd e1 hl r x
    have I2 : Inv (gcxOf P w K mg base N qual scope f cdv Aw outer s H E0 []) [] (start N vs) H s2 := by
      have all : ∀ b o, s1.heap.get? b = some o → s2.heap.get? b = some o := fun b o e => kp2 b o (old b o e)
      exact I1.call' (ch := []) (hos.trans os1.symm) (Un.kept all) (I1.hok.kept all) hba (fun b hb => by cases hb)
    have hgo : s2.heap.get? s1.heap.objs.size = some go := kp2 _ _ (c4 _)
    have I3 : Inv (gcxOf P w K mg base N qual scope f cdv Aw outer s H E0 [(s1.heap.objs.size, go)]) [] (start N vs) H s2 := Inv.pinnedG I2 (fun p hp => by
      have hp' : p = (s1.heap.objs.size, go) := by
        rcases List.mem_append.mp hp with q | q
        · exact List.mem_singleton.mp q
        · cases q
      subst hp'
      exact ⟨hgo, I1.hok.fresh (Nat.le_refl _), Nat.ne_of_gt lt1, I1.nofs (Nat.le_refl _), fun v q => by rw [c2] at q; cases q⟩)
    have I4 : Inv (gcxY P w K mg base N qual scope f cdv Aw outer s H [(s1.heap.objs.size, go)]) [] (start N vs) H s2 := reXe I3
    have I5 := rebase I4 e0.frf
    refine ⟨I4.ok, ?_⟩
    obtain ⟨t, ht, hq⟩ := hbody Aw outer s H vs yl z [(s1.heap.objs.size, go)] (hrw.deeper _) hsp
    refine seg_func ?_
    refine ht.run Aw [] C _ genLine 0 s2 H _ [] _ _ id id s2 (start N vs) H _ ⟨I4.ok, fun _ _ q => q, over_func, rfl, rfl, rfl⟩ (Nat.add_zero _) (fun n i s₀ Hr s' fl hn hC' hs => ?_) I5 hC hq
    cases fl with
    | brk => obtain ⟨_, _, _, q⟩ := hs; exact False.elim q
    | cont => obtain ⟨_, _, _, q⟩ := hs; exact False.elim q
    | next =>
      obtain ⟨σ', H', I', q⟩ := hs
      exact seg_end (.ok (.ret .none)) (.inl ⟨.inl rfl, i, Hr, [], σ', H', hn, I', hC', q⟩)
    | ret u =>
      obtain ⟨v, σ', H', I', rv, ev, q⟩ := hs
      subst ev
      obtain rfl : u = Value.none := rv
      exact seg_end (.ok (.ret .none)) (.inl ⟨.inl rfl, i, Hr, [], σ', H', hn, I', hC', q⟩)
  exact main _ _ _ _ rfl rfl rfl (fun h => Heap.get?_push_size _ rfl)
theorem Fun.yok {x qual : Str} {st : Stmt} {f : Addr} {fd : FuncData} {N ps : List Str} {sp : SpY} (F : Fun K x qual st f fd) (S : GScope N ps (defScope st)) (len : ∀ vs H yl z, sp vs H yl z → vs.length = ps.length)
    (hbody : ∀ (cdv : Value) (A : Around) (outer : List Env) (s : Shared) (H : Hp) (vs : List V) (yl : Nat → Hp → V → Hp → Hp → Prop) (z : Nat → Hp → Hp → Prop) (pn : List (Addr × Obj)), Room k (A.deeper (envOfC qual (defScope st) s.heap.objs.size f cdv)) → sp vs H yl z →
      ∃ t, YSs (gcxY P w K mg base N qual (defScope st) f cdv A outer s H pn) (defBody st) t ∧ t { yl := yl, nx := fun i Hr _ H' => z i Hr H', rt := fun i Hr v H' => v = .non ∧ z i Hr H' } 0 H (start N vs) H) : GFnY P w K mg base (k + 1) f fd ps sp := by
  obtain ⟨oc, od, kV, doc, pm, an, cdv, ct, osl, rfl, lk, hcd⟩ := F.ex
  exact gfnY_of lk hcd S len (fun A outer s H vs yl z pn hr hsp => hbody cdv A outer s H vs yl z pn hr hsp)
end
section
variable {X : Cx} {k : Nat} {f : Addr} {fd : FuncData} {ps ks : List Str} {sp : SpY} {dvs : List V} {ds : List Value} {x : Str} {p pos : Pos}
def tCallY (sp : SpY) (dvs : List V) (t : TA) : TGY := fun σ H yl z st => t σ H fun vs H1 => sp (vs ++ dvs) H1 yl z ∧ st H1
theorem pgy_call {e : Expr} {es : List Expr} {t : TA} (F : GFnY X.prog X.w X.K X.mg X.base k f fd ps sp) (hr : Room k X.A) (hg : Gl X x) (hm : X.mg x = some (.ref f)) (hk : PySem.W.keepIn X.K (.ref f) = true) (hb : Binds X.K fd ps ds) (hd : Vals dvs ds)
    (ha : PA X (e :: es) t) (hdb : (x == ("__debug__" : Str)) = false := by decide) (he : starEach (e :: es) X.env = (false, eval e X.env) :: starEach es X.env := by rfl) (hpl : (backTo pos (starEach es X.env)).any (·.1) = false := by rfl) :
    PGenY X k (.Call (.Name x p) (e :: es) [] pos) (tCallY sp dvs t) := by
  refine ⟨fun pins s σ H yl z start I h => ?_⟩
  refine wpAny_Call_Name_kw (ld_glob I hg hm ?_ hdb)
  refine PySem.W.callWith_K (h₀ := X.base) I.ok.mod.kin hk (thn (ha.run pos pins s σ H _ I h) (fun us s1 hh => ?_)) he hpl
  obtain ⟨vs, H1, I1, r, q, q0⟩ := hh
  refine ⟨I1.kIn, ?_⟩
  have r2 : Vals (vs ++ dvs) (us ++ ds) := Vals.append r hd
  have sz : (us ++ ds).length = ps.length := by rw [← r2.length]; exact F.len _ _ _ _ q
  refine wpAny_call (codeAny_mono (F.run X.A X.stack s1 H1 ⟨us, []⟩ (us ++ ds) (vs ++ dvs) yl z hr I1.env0 (hb s1 us I1.kIn sz) r2 q) (fun r s' hq => ?_))
  cases r with
  | error e => exact False.elim hq
  | ok fl => cases fl with
    | ret u => exact ⟨H1, s1, I1, hq, q0⟩
    | next => exact False.elim hq
    | brk => exact False.elim hq
    | cont => exact False.elim hq
/-- g(name = e, ..): keywords alone -/
def tCallYK (sp : SpY) (gV : List V → List V → List V) (tk : TA) : TGY := fun σ H yl z st => tk σ H fun zs H1 => sp (gV [] zs) H1 yl z ∧ st H1
end
/-! ### the part of a heap that must stand -/
def part (L : List Addr) (H : Hp) : Hp := fun b => if b ∈ L then H b else none
theorem part_ex {L : List Addr} {H : Hp} : Ex (part L H) H := fun b o h => by
  unfold part at h
  by_cases z : b ∈ L
  · rw [if_pos z] at h; exact h
  · rw [if_neg z] at h; cases h
theorem part_at {L : List Addr} {H : Hp} {b : Addr} {o : HO} (m : b ∈ L) (h : H b = some o) : part L H b = some o := by
  unfold part
  rw [if_pos m]; exact h
theorem of_part {L : List Addr} {H : Hp} {b : Addr} {o : HO} (h : part L H b = some o) : b ∈ L ∧ H b = some o := by
  unfold part at h
  by_cases z : b ∈ L
  · rw [if_pos z] at h; exact ⟨z, h⟩
  · rw [if_neg z] at h; cases h
/-! ### readings -/
def LoopY (J : It) (g : TG) (tb : TY) (D : YE) (i : Nat) (Hr : Hp) (σ : L2.St) (H1 : Hp) : Prop := ∃ W : Nat → Nat → Nat → Hp → L2.St → Hp → Prop, (∃ m, W 0 m i Hr σ H1) ∧ ∀ j m i Hr σ H, W j m i Hr σ H →
  (J.stop j H ∧ D.nx i Hr σ H) ∨ (J.go j H ∧ ∃ N : Nat → Hp → L2.St → Hp → Prop, (∀ i' Hr' σ' H', N i' Hr' σ' H' → ∃ m', m' < m ∧ W (j + 1) m' i' Hr' σ' H') ∧ ∀ x H', J.yld j H x H' → g x σ H' fun σ2 H2 => tb { D with nx := N, ct := N, bk := D.nx } i Hr σ2 H2)
section
variable {i : Nat} {Hr : Hp} {σ : L2.St} {H : Hp} {Q : VK} {D : YE} {Dp : Ends} {yl : Nat → Hp → V → Hp → Hp → Prop} {z : Nat → Hp → Hp → Prop} {st : Hp → Prop}
theorem x_yfor {wi : TI} {g : TG} {tb : TY} : tYFor wi g tb D i Hr σ H = wi σ H fun J H1 => LoopY J g tb D i Hr σ H1 := rfl
theorem x_yplain {t : TS} : tYPlain t D i Hr σ H = t { nx := D.nx i Hr, rt := D.rt i Hr, bk := D.bk i Hr, ct := D.ct i Hr } σ H := rfl
theorem x_ythen {t u : TY} : tYThen t u D i Hr σ H = t { D with nx := fun i' Hr' σ' H' => u D i' Hr' σ' H' } i Hr σ H := rfl
theorem x_y0 : tY0 D i Hr σ H = D.nx i Hr σ H := rfl
theorem x_yyield {ws : List Nat} {te : TE} : tYYield ws te D i Hr σ H = (i < genLine ∧ te σ H fun x H1 => ∃ K, D.yl i Hr x H1 K ∧ ∀ H2, Ex K H2 → Dom H1 H2 → D.nx (i + 1) H2 (wipe σ ws) H2) := rfl
theorem x_ywhile {c : TT} {tb : TY} : tYWhile c tb D i Hr σ H = ∃ W : Nat → Nat → Hp → L2.St → Hp → Prop, (∃ m, W m i Hr σ H) ∧ ∀ m i Hr σ H, W m i Hr σ H →
  c σ H fun b H1 => if b = true then ∃ N : Nat → Hp → L2.St → Hp → Prop, (∀ i' Hr' σ' H', N i' Hr' σ' H' → ∃ m', m' < m ∧ W m' i' Hr' σ' H') ∧ tb { D with nx := N, ct := N, bk := D.nx } i Hr σ H1 else D.nx i Hr σ H1 := rfl
theorem x_callY {sp : SpY} {dvs : List V} {t : TA} : tCallY sp dvs t σ H yl z st = t σ H fun vs H1 => sp (vs ++ dvs) H1 yl z ∧ st H1 := rfl
theorem x_callYK {sp : SpY} {gV : List V → List V → List V} {tk : TA} : tCallYK sp gV tk σ H yl z st = tk σ H fun zs H1 => sp (gV [] zs) H1 yl z ∧ st H1 := rfl
end
/-! ### the cells' slots -/
theorem cells_mem {x : Str} {c : Addr} : ∀ (names : List (Str × NameKind)) (n : Nat) (acc : List (Str × Addr)), (x, c) ∈ cellsFrom n names acc → (x, c) ∈ acc ∨ (x, NameKind.cell) ∈ names
  | [], _, _, h => .inl h
  | (nm, k) :: r, n, acc, h => by
    unfold cellsFrom at h
    by_cases hk : k = .cell
    · subst hk
      rw [if_pos (by decide)] at h
      rcases cells_mem r _ _ h with q | q
      · rcases List.mem_cons.mp q with e | q
        · cases e
          exact .inr List.mem_cons_self
        · exact .inl q
      · exact .inr (List.mem_cons_of_mem _ q)
    · rw [if_neg (by simpa using hk)] at h
      exact (cells_mem r _ _ h).imp id (List.mem_cons_of_mem _)
theorem cellsIn_by {P : Program} {w : World} {K : PySem.W.Frag} {mg : Str → Option Value} {base : Heap} {N : List Str} {qual : Str} {scope : Scope} {f : Addr} {cd : Value} {A : Around} {outer : List Env} {s : Shared} {H : Hp} {pn : List (Addr × Obj)} {ws : List Nat}
    (h : (N.zipIdx.all fun p => !(scope.names.any fun y => decide (y.1 = p.1) && decide (y.2 = NameKind.cell)) || ws.contains p.2) = true) : CellsIn (gcxY P w K mg base N qual scope f cd A outer s H pn) ws := by
  rintro i x hx ⟨c, hc⟩
  have m := PySem.W.mem_lookup (show (cellsFrom (s.heap.objs.size + 1) scope.names []).lookup x = some c from hc)
  rcases cells_mem _ _ _ m with q | q
  · cases q
  · have a := List.all_eq_true.mp h (x, i) (List.mem_zipIdx_iff_getElem?.mpr hx)
    rcases Bool.or_eq_true_iff.mp a with b | b
    · exfalso
      have : (scope.names.any fun y => decide (y.1 = x) && decide (y.2 = NameKind.cell)) = true := List.any_eq_true.mpr ⟨_, q, by simp⟩
      rw [this] at b
      cases b
    · simpa using b
end SL
set_option Elab.async false
set_option linter.all false
set_option maxRecDepth 100000
set_option maxHeartbeats 4000000
/-! the trails from a page in list order, and how many they are (orders.py, plain) -/
namespace TF
open BC
/-- the pages that can come next -/
def kids (G : Grid) (t : List Nat) : List Nat := (row G (lst t)).filter fun u => decide (u ∉ t)
/-- .. behind one of them -/
def later (G : Grid) (q : List Nat) (x : Nat) : List Nat := (row G (lst q)).filter fun u => decide (x < u) && decide (u ∉ q)
/-- what waits when t was taken, the next one first; t turned round -/
def restR (G : Grid) : List Nat → List (List Nat)
  | [] => []
  | [_] => []
  | x :: y :: r => ((later G (y :: r).reverse x).map fun u => (y :: r).reverse ++ [u]) ++ restR G (y :: r)
def rest (G : Grid) (t : List Nat) : List (List Nat) := restR G t.reverse
def stk (G : Grid) (t : List Nat) : List (List Nat) := ((kids G t).map fun u => t ++ [u]) ++ rest G t
def Asc (G : Grid) : Prop := ∀ i, (row G i).Pairwise (· < ·)
theorem rest_one (G : Grid) (p : Nat) : rest G [p] = [] := rfl
theorem rest_snoc {G : Grid} {q : List Nat} (hq : q ≠ []) (x : Nat) : rest G (q ++ [x]) = ((later G q x).map fun u => q ++ [u]) ++ rest G q := by
  unfold rest
  rw [List.reverse_append, List.reverse_singleton, List.singleton_append]
  obtain ⟨y, r, e⟩ : ∃ y r, q.reverse = y :: r := by
    cases h : q.reverse with
    | nil => exact absurd (List.reverse_eq_nil_iff.mp h) hq
    | cons y r => exact ⟨y, r, rfl⟩
  rw [e]
  show ((later G (y :: r).reverse x).map fun u => (y :: r).reverse ++ [u]) ++ restR G (y :: r) = _
  rw [← e, List.reverse_reverse]
/-- filtering an ascending list behind its first kept element -/
theorem filter_tail {l us : List Nat} {P : Nat → Bool} {u : Nat} (ha : l.Pairwise (· < ·)) (h : l.filter P = u :: us) : l.filter (fun y => decide (u < y) && P y) = us := by
  induction l with
  | nil => cases h
  | cons a l ih =>
    obtain ⟨h1, h2⟩ := List.pairwise_cons.mp ha
    cases c : P a with
    | true =>
      rw [List.filter_cons_of_pos c] at h
      obtain ⟨rfl, rfl⟩ := List.cons.inj h
      rw [List.filter_cons_of_neg (by simp)]
      refine List.filter_congr fun y hy => ?_
      rw [decide_eq_true (h1 y hy), Bool.true_and]
    | false =>
      rw [List.filter_cons_of_neg (by rw [c]; decide)] at h
      rw [List.filter_cons_of_neg (by rw [c]; simp)]
      exact ih h2 h
theorem later_kids {G : Grid} (ha : Asc G) {t : List Nat} {u : Nat} {us : List Nat} (h : kids G t = u :: us) : later G t u = us := filter_tail (ha _) h
theorem later_later {G : Grid} (ha : Asc G) {q : List Nat} {x u : Nat} {us : List Nat} (h : later G q x = u :: us) : later G q u = us := by
  have h1 := filter_tail (ha _) h
  unfold later
  rw [← h1]
  refine List.filter_congr fun y _ => ?_
  have hx : x < u := by
    have m : u ∈ later G q x := by rw [h]; exact List.mem_cons_self
    unfold later at m
    have := (List.mem_filter.mp m).2
    rw [Bool.and_eq_true, decide_eq_true_eq] at this
    exact this.1
  by_cases c : u < y
  · rw [decide_eq_true c, decide_eq_true (show x < y by omega), Bool.true_and, Bool.true_and]
  · rw [decide_eq_false c, Bool.false_and, Bool.false_and]
/-- the head's own rest is the tail -/
theorem rest_head {G : Grid} (ha : Asc G) : ∀ (n : Nat) {t u : List Nat} {R : List (List Nat)}, t.length ≤ n → rest G t = u :: R → rest G u = R
  | 0, t, u, R, hn, h => by
    have : t = [] := List.length_eq_zero_iff.mp (by omega)
    subst this
    cases h
  | n + 1, t, u, R, hn, h => by
    by_cases ht : t = []
    · subst ht; cases h
    obtain ⟨q, x, rfl⟩ : ∃ q x, t = q ++ [x] := ⟨_, _, (List.dropLast_concat_getLast ht).symm⟩
    rw [List.length_append, List.length_singleton] at hn
    by_cases hq : q = []
    · subst hq; cases h
    rw [rest_snoc hq] at h
    cases c : later G q x with
    | nil =>
      rw [c] at h
      exact rest_head ha n (by omega) h
    | cons y ys =>
      rw [c, List.map_cons, List.cons_append] at h
      obtain ⟨rfl, rfl⟩ := List.cons.inj h
      rw [rest_snoc hq, later_later ha c]
theorem stk_head {G : Grid} (ha : Asc G) {t u : List Nat} {R : List (List Nat)} (ht : t ≠ []) (h : stk G t = u :: R) : rest G u = R := by
  unfold stk at h
  cases c : kids G t with
  | nil =>
    rw [c] at h
    exact rest_head ha _ (Nat.le_refl _) h
  | cons y ys =>
    rw [c, List.map_cons, List.cons_append] at h
    obtain ⟨rfl, rfl⟩ := List.cons.inj h
    rw [rest_snoc ht, later_kids ha c]
/-- one trail behind another -/
def nxt (G : Grid) (t : List Nat) : Option (List Nat) := (stk G t).head?
/-- the first one that waits -/
def climb (G : Grid) (t : List Nat) : Option (List Nat) := (rest G t).head?
theorem climb_snoc {G : Grid} {q : List Nat} (hq : q ≠ []) (x : Nat) : climb G (q ++ [x]) = match later G q x with
    | u :: _ => some (q ++ [u])
    | [] => climb G q := by
  unfold climb
  rw [rest_snoc hq]
  cases later G q x with
  | nil => rfl
  | cons u us => rfl
theorem nxt_eq (G : Grid) (t : List Nat) : nxt G t = match kids G t with
    | u :: _ => some (t ++ [u])
    | [] => climb G t := by
  unfold nxt stk
  cases kids G t with
  | nil => rfl
  | cons u us => rfl
/-! how many -/
/-- descendants so deep -/
def lev (G : Grid) : Nat → List Nat → Nat
  | 0, _ => 1
  | j + 1, t => ((kids G t).map fun u => lev G j (t ++ [u])).sum
def size (G : Grid) (n : Nat) (t : List Nat) : Nat := ((List.range (n + 1)).map fun j => lev G j t).sum
structure TrOk (G : Grid) (t : List Nat) : Prop where
  ne : t ≠ []
  nd : t.Nodup
  lt : ∀ x ∈ t, x < G.length
theorem TrOk.len {G : Grid} {t : List Nat} (h : TrOk G t) : t.length ≤ G.length := nodup_lt _ h.nd h.lt
theorem TrOk.kid {G : Grid} (hG : SiteOk G) {t : List Nat} (h : TrOk G t) {u : Nat} (hu : u ∈ kids G t) : TrOk G (t ++ [u]) := by
  have h1 := (List.mem_filter.mp hu).1
  have h2 := of_decide_eq_true (List.mem_filter.mp hu).2
  refine ⟨by simp, ?_, fun x hx => ?_⟩
  · rw [List.nodup_append]
    refine ⟨h.nd, by simp, fun a ha b hb e => ?_⟩
    rw [List.mem_singleton.mp hb] at e
    subst e
    exact h2 ha
  · rcases List.mem_append.mp hx with m | m
    · exact h.lt x m
    · rw [List.mem_singleton.mp m]; exact hG.rlt h1
theorem kids_asc {G : Grid} (ha : Asc G) (t : List Nat) : (kids G t).Pairwise (· < ·) := (ha _).filter _
theorem kids_len {G : Grid} (hG : SiteOk G) (ha : Asc G) {t : List Nat} (h : TrOk G t) : (kids G t).length + t.length ≤ G.length := by
  have hnd : (kids G t ++ t).Nodup := by
    rw [List.nodup_append]
    refine ⟨asc_nodup (kids_asc ha t), h.nd, fun a hA b hB e => ?_⟩
    subst e
    exact of_decide_eq_true (List.mem_filter.mp hA).2 hB
  have := nodup_lt G.length hnd fun x hx => by
    rcases List.mem_append.mp hx with m | m
    · exact hG.rlt (List.mem_filter.mp m).1
    · exact h.lt x m
  rw [List.length_append] at this
  exact this
theorem lev_zero {G : Grid} (hG : SiteOk G) : ∀ (j : Nat) {t : List Nat}, TrOk G t → G.length < t.length + j → lev G j t = 0
  | 0, t, h, hj => by have := h.len; omega
  | j + 1, t, h, hj => by
    show ((kids G t).map fun u => lev G j (t ++ [u])).sum = 0
    have : ∀ u ∈ kids G t, lev G j (t ++ [u]) = 0 := fun u hu => lev_zero hG j (h.kid hG hu) (by rw [List.length_append, List.length_singleton]; omega)
    rw [List.map_congr_left this]
    exact sum_zeros _
theorem size_succ (G : Grid) (n : Nat) (t : List Nat) : size G (n + 1) t = 1 + ((kids G t).map fun u => size G n (t ++ [u])).sum := by
  unfold size
  rw [List.range_succ_eq_map, List.map_cons, List.sum_cons, List.map_map]
  show 1 + _ = 1 + _
  congr 1
  have h : ∀ l : List Nat, ((List.range (n + 1)).map ((fun j => lev G j t) ∘ Nat.succ)) = (List.range (n + 1)).map fun j => ((kids G t).map fun u => lev G j (t ++ [u])).sum := fun _ => rfl
  rw [h []]
  generalize kids G t = ks
  clear h
  induction ks with
  | nil => exact sum_zeros _
  | cons u us ih =>
    simp only [List.map_cons, List.sum_cons]
    rw [← ih]
    generalize List.range (n + 1) = L
    induction L with
    | nil => rfl
    | cons a L ihL => simp only [List.map_cons, List.sum_cons]; omega
/-- all of them below t, t itself with them -/
def big (G : Grid) (t : List Nat) : Nat := size G (G.length - t.length) t
theorem big_eq {G : Grid} (hG : SiteOk G) {t : List Nat} (h : TrOk G t) : big G t = 1 + ((kids G t).map fun u => big G (t ++ [u])).sum := by
  unfold big
  have hl := h.len
  by_cases c : t.length < G.length
  · obtain ⟨n, hn⟩ : ∃ n, G.length - t.length = n + 1 := ⟨G.length - t.length - 1, by omega⟩
    rw [hn, size_succ]
    congr 2
    refine List.map_congr_left fun u hu => ?_
    rw [List.length_append, List.length_singleton, show G.length - (t.length + 1) = n by omega]
  · have e : G.length - t.length = 0 := by omega
    have k0 : kids G t = [] := by
      cases hk : kids G t with
      | nil => rfl
      | cons u us =>
        have := (h.kid hG (by rw [hk]; exact List.mem_cons_self)).len
        rw [List.length_append, List.length_singleton] at this
        omega
    rw [e, k0]
    rfl
/-- what is still to come when t was taken -/
def left (G : Grid) (t : List Nat) : Nat := ((stk G t).map (big G)).sum
theorem left_step {G : Grid} (hG : SiteOk G) (ha : Asc G) {t u : List Nat} {R : List (List Nat)} (ht : t ≠ []) (hu : TrOk G u) (h : stk G t = u :: R) : left G t = left G u + 1 := by
  have h1 := stk_head ha ht h
  unfold left
  rw [h, List.map_cons, List.sum_cons, big_eq hG hu]
  unfold stk
  rw [h1, List.map_append, List.sum_append, List.map_map]
  show 1 + ((kids G u).map fun v => big G (u ++ [v])).sum + _ = ((kids G u).map fun v => big G (u ++ [v])).sum + _ + 1
  omega
/-- everything that waits is a trail -/
theorem later_sub {G : Grid} {q : List Nat} {x u : Nat} (h : u ∈ later G q x) : u ∈ kids G q := by
  obtain ⟨h1, h2⟩ := List.mem_filter.mp h
  rw [Bool.and_eq_true] at h2
  exact List.mem_filter.mpr ⟨h1, h2.2⟩
theorem rest_ok {G : Grid} (hG : SiteOk G) : ∀ (n : Nat) {t : List Nat}, t.length ≤ n → TrOk G t → ∀ v ∈ rest G t, TrOk G v
  | 0, t, hn, h, _, _ => absurd (List.length_eq_zero_iff.mp (by omega)) h.ne
  | n + 1, t, hn, h, v, hv => by
    obtain ⟨q, x, rfl⟩ : ∃ q x, t = q ++ [x] := ⟨_, _, (List.dropLast_concat_getLast h.ne).symm⟩
    rw [List.length_append, List.length_singleton] at hn
    by_cases hq : q = []
    · subst hq; cases hv
    have okq : TrOk G q := ⟨hq, (List.nodup_append.mp h.nd).1, fun y hy => h.lt y (List.mem_append_left _ hy)⟩
    rw [rest_snoc hq] at hv
    rcases List.mem_append.mp hv with m | m
    · obtain ⟨u, hu, rfl⟩ := List.mem_map.mp m
      exact okq.kid hG (later_sub hu)
    · exact rest_ok hG n (by omega) okq v m
theorem stk_ok {G : Grid} (hG : SiteOk G) {t : List Nat} (h : TrOk G t) : ∀ v ∈ stk G t, TrOk G v := fun v hv => by
  rcases List.mem_append.mp hv with m | m
  · obtain ⟨u, hu, rfl⟩ := List.mem_map.mp m
    exact h.kid hG hu
  · exact rest_ok hG _ (Nat.le_refl _) h v m
/-- the trails from t on -/
def run (G : Grid) : Nat → List Nat → List (List Nat)
  | 0, t => [t]
  | n + 1, t => t :: (match nxt G t with
    | none => []
    | some u => run G n u)
def all (G : Grid) (p : Nat) : List (List Nat) := run G (left G [p]) [p]
end TF
set_option Elab.async false
set_option linter.all false
set_option maxRecDepth 100000
set_option maxHeartbeats 4000000
/-! the trails from a page: their order, how many at most, and count_trails' layers (plain) -/
namespace TF
open BC
/-! list order -/
theorem nz_append (a b : List Nat) : nz (a ++ b) = nz a ++ nz b := List.map_append
theorem lt_more : ∀ (t : List Int) (x : Int) (s : List Int), t < t ++ x :: s
  | [], _, _ => List.Lex.nil
  | a :: t, x, s => List.Lex.cons (lt_more t x s)
theorem lt_at {x y : Int} (h : x < y) : ∀ (q r s : List Int), q ++ x :: r < q ++ y :: s
  | [], _, _ => List.Lex.rel h
  | a :: q, r, s => List.Lex.cons (lt_at h q r s)
theorem later_lt {G : Grid} {q : List Nat} {x u : Nat} (h : u ∈ later G q x) : x < u := by
  have h2 := (List.mem_filter.mp h).2
  rw [Bool.and_eq_true, decide_eq_true_eq] at h2
  exact h2.1
theorem climb_lt {G : Grid} : ∀ (n : Nat) {t u : List Nat}, t.length ≤ n → climb G t = some u → ∀ s : List Nat, nz (t ++ s) < nz u
  | 0, t, u, hn, h, _ => by
    have : t = [] := List.length_eq_zero_iff.mp (by omega)
    subst this
    cases h
  | n + 1, t, u, hn, h, s => by
    by_cases ht : t = []
    · subst ht; cases h
    obtain ⟨q, x, rfl⟩ : ∃ q x, t = q ++ [x] := ⟨_, _, (List.dropLast_concat_getLast ht).symm⟩
    rw [List.length_append, List.length_singleton] at hn
    by_cases hq : q = []
    · subst hq; cases h
    rw [climb_snoc hq] at h
    rw [List.append_assoc]
    cases c : later G q x with
    | nil =>
      rw [c] at h
      exact climb_lt n (by omega) h _
    | cons y ys =>
      rw [c] at h
      obtain rfl : q ++ [y] = u := Option.some.inj h
      have hx : x < y := later_lt (G := G) (q := q) (by rw [c]; exact List.mem_cons_self)
      rw [nz_append, nz_append, nz_append]
      show nz q ++ (x : Int) :: nz s < nz q ++ (y : Int) :: nz []
      exact lt_at (show (x : Int) < (y : Int) by omega) _ _ _
theorem nxt_lt {G : Grid} {t u : List Nat} (h : nxt G t = some u) : nz t < nz u := by
  rw [nxt_eq] at h
  cases c : kids G t with
  | nil =>
    rw [c] at h
    have := climb_lt _ (Nat.le_refl _) h []
    rw [List.append_nil] at this
    exact this
  | cons y ys =>
    rw [c] at h
    obtain rfl : t ++ [y] = u := Option.some.inj h
    rw [nz_append]
    exact lt_more _ _ _
theorem run_asc {G : Grid} : ∀ (n : Nat) (t : List Nat), (run G n t).Pairwise (fun a b => nz a < nz b) ∧ ∀ v ∈ run G n t, v = t ∨ nz t < nz v
  | 0, t => ⟨List.pairwise_singleton _ _, fun v hv => .inl (List.mem_singleton.mp hv)⟩
  | n + 1, t => by
    unfold run
    cases c : nxt G t with
    | none => exact ⟨List.pairwise_singleton _ _, fun v hv => .inl (List.mem_singleton.mp hv)⟩
    | some u =>
      have hu := nxt_lt c
      obtain ⟨h1, h2⟩ := run_asc n u
      have hv : ∀ v ∈ run G n u, nz t < nz v := fun v hv => by
        rcases h2 v hv with rfl | h
        · exact hu
        · exact List.lt_trans hu h
      exact ⟨List.pairwise_cons.mpr ⟨hv, h1⟩, fun v hv' => (List.mem_cons.mp hv').imp id (hv v)⟩
/-! one behind the other -/
theorem big_pos {G : Grid} (hG : SiteOk G) {t : List Nat} (h : TrOk G t) : 0 < big G t := by rw [big_eq hG h]; omega
theorem left_zero {G : Grid} (hG : SiteOk G) {t : List Nat} (h : TrOk G t) (e : left G t = 0) : stk G t = [] := by
  cases c : stk G t with
  | nil => rfl
  | cons u R =>
    have := big_pos hG (stk_ok hG h u (by rw [c]; exact List.mem_cons_self))
    unfold left at e
    rw [c, List.map_cons, List.sum_cons] at e
    omega
theorem nxt_stk {G : Grid} {t u : List Nat} (h : nxt G t = some u) : ∃ R, stk G t = u :: R := by
  unfold nxt at h
  cases c : stk G t with
  | nil => rw [c] at h; cases h
  | cons v R => rw [c] at h; exact ⟨R, by rw [Option.some.inj h]⟩
theorem run_zero {G : Grid} (n : Nat) (t : List Nat) : (run G n t)[0]? = some t := by cases n <;> rfl
theorem run_next {G : Grid} (hG : SiteOk G) (ha : Asc G) : ∀ (n : Nat) {t : List Nat}, left G t ≤ n → TrOk G t → ∀ {i : Nat} {v : List Nat}, (run G n t)[i]? = some v → TrOk G v ∧ (run G n t)[i + 1]? = nxt G v
  | 0, t, hn, h, i, v, e => by
    have s0 := left_zero hG h (by omega)
    match i, e with
    | 0, e =>
      obtain rfl : t = v := Option.some.inj e
      refine ⟨h, ?_⟩
      show none = (stk G t).head?
      rw [s0]
      rfl
  | n + 1, t, hn, h, i, v, e => by
    unfold run at e ⊢
    cases c : nxt G t with
    | none =>
      rw [c] at e
      match i, e with
      | 0, e =>
        obtain rfl : t = v := Option.some.inj e
        exact ⟨h, c.symm⟩
    | some u =>
      rw [c] at e
      obtain ⟨R, hR⟩ := nxt_stk c
      have hu := stk_ok hG h u (by rw [hR]; exact List.mem_cons_self)
      have hl := left_step hG ha h.ne hu hR
      match i, e with
      | 0, e =>
        obtain rfl : t = v := Option.some.inj e
        exact ⟨h, by rw [c]; exact run_zero n u⟩
      | i + 1, e => exact run_next hG ha n (by omega) hu e
theorem run_len {G : Grid} (hG : SiteOk G) (ha : Asc G) : ∀ (n : Nat) {t : List Nat}, left G t = n → TrOk G t → (run G n t).length = n + 1
  | 0, t, hn, h => rfl
  | n + 1, t, hn, h => by
    unfold run
    cases c : nxt G t with
    | none =>
      exfalso
      have : stk G t = [] := by
        unfold nxt at c
        cases e : stk G t with
        | nil => rfl
        | cons a b => rw [e] at c; cases c
      unfold left at hn
      rw [this] at hn
      cases hn
    | some u =>
      obtain ⟨R, hR⟩ := nxt_stk c
      have hu := stk_ok hG h u (by rw [hR]; exact List.mem_cons_self)
      have hl := left_step hG ha h.ne hu hR
      show (run G n u).length + 1 = n + 1 + 1
      rw [run_len hG ha n (by omega) hu]
theorem one_ok {G : Grid} {p : Nat} (hp : p < G.length) : TrOk G [p] := ⟨by simp, by simp, fun x hx => by rw [List.mem_singleton.mp hx]; exact hp⟩
theorem left_one {G : Grid} (hG : SiteOk G) {p : Nat} (hp : p < G.length) : left G [p] + 1 = big G [p] := by
  rw [big_eq hG (one_ok hp)]
  unfold left stk
  rw [rest_one, List.append_nil, List.map_map]
  show ((kids G [p]).map fun u => big G ([p] ++ [u])).sum + 1 = _
  omega
theorem all_len {G : Grid} (hG : SiteOk G) (ha : Asc G) {p : Nat} (hp : p < G.length) : (all G p).length = big G [p] := by
  unfold all
  rw [run_len hG ha _ rfl (one_ok hp), left_one hG hp]
theorem all_next {G : Grid} (hG : SiteOk G) (ha : Asc G) {p : Nat} (hp : p < G.length) {i : Nat} {v : List Nat} (h : (all G p)[i]? = some v) : TrOk G v ∧ (all G p)[i + 1]? = nxt G v :=
  run_next hG ha _ (Nat.le_refl _) (one_ok hp) h
theorem all_zero {G : Grid} {p : Nat} : (all G p)[0]? = some [p] := run_zero _ _
theorem all_asc (G : Grid) (p : Nat) : (all G p).Pairwise (fun a b => nz a < nz b) := (run_asc _ _).1
/-! how many at most -/
def bnd : Nat → Nat
  | 0 => 1
  | r + 1 => 1 + (r + 1) * bnd r
theorem big_le {G : Grid} (hG : SiteOk G) (ha : Asc G) : ∀ (r : Nat) {t : List Nat}, TrOk G t → G.length ≤ t.length + r → big G t ≤ bnd r
  | 0, t, h, hr => by
    have := kids_len hG ha h
    have k0 : kids G t = [] := List.length_eq_zero_iff.mp (by omega)
    rw [big_eq hG h, k0]
    exact Nat.le_refl _
  | r + 1, t, h, hr => by
    have hk := kids_len hG ha h
    rw [big_eq hG h]
    show _ ≤ 1 + (r + 1) * bnd r
    have h1 : ((kids G t).map fun u => big G (t ++ [u])).sum ≤ (kids G t).length * bnd r := sum_le fun u hu => big_le hG ha r (h.kid hG hu) (by rw [List.length_append, List.length_singleton]; omega)
    have h2 : (kids G t).length * bnd r ≤ (r + 1) * bnd r := Nat.mul_le_mul_right _ (by omega)
    omega
/-! sets of pages as numbers -/
def hb (b x : Nat) : Bool := decide (b / 2 ^ x % 2 = 1)
def bits (t : List Nat) : Nat := (t.map (2 ^ ·)).sum
theorem hb_zero (y : Nat) : hb 0 y = false := by
  unfold hb
  rw [Nat.zero_div]
  rfl
theorem hb_add {b a : Nat} (h : hb b a = false) (y : Nat) : hb (b + 2 ^ a) y = (decide (y = a) || hb b y) := by
  have h0 : b / 2 ^ a % 2 = 0 := by
    have := of_decide_eq_false h
    omega
  unfold hb
  rcases Nat.lt_trichotomy y a with c | c | c
  · rw [decide_eq_false (show ¬ y = a by omega), Bool.false_or]
    obtain ⟨d, rfl⟩ : ∃ d, a = y + 1 + d := ⟨a - y - 1, by omega⟩
    have e : 2 ^ (y + 1 + d) = 2 ^ y * (2 * 2 ^ d) := by rw [Nat.pow_add, Nat.pow_succ, Nat.mul_assoc]
    rw [e, Nat.add_mul_div_left _ _ (Nat.two_pow_pos y), Nat.add_mul_mod_self_left]
  · subst c
    rw [decide_eq_true rfl, Bool.true_or, Nat.add_div_right _ (Nat.two_pow_pos y)]
    exact decide_eq_true (by omega)
  · rw [decide_eq_false (show ¬ y = a by omega), Bool.false_or]
    obtain ⟨d, rfl⟩ : ∃ d, y = a + 1 + d := ⟨y - a - 1, by omega⟩
    have e : (b + 2 ^ a) / 2 ^ (a + 1) = b / 2 ^ (a + 1) := by
      rw [Nat.pow_succ, ← Nat.div_div_eq_div_mul, ← Nat.div_div_eq_div_mul, Nat.add_div_right _ (Nat.two_pow_pos a)]
      omega
    rw [Nat.pow_add, ← Nat.div_div_eq_div_mul, ← Nat.div_div_eq_div_mul, e]
theorem bits_snoc (t : List Nat) (x : Nat) : bits (t ++ [x]) = bits t + 2 ^ x := by
  unfold bits
  rw [List.map_append, List.sum_append]
  show _ + (2 ^ x + 0) = _
  omega
theorem hb_bits : ∀ (n : Nat) {t : List Nat}, t.length ≤ n → t.Nodup → ∀ y, hb (bits t) y = decide (y ∈ t)
  | 0, t, hn, _, y => by
    have : t = [] := List.length_eq_zero_iff.mp (by omega)
    subst this
    exact hb_zero y
  | n + 1, t, hn, nd, y => by
    by_cases ht : t = []
    · subst ht; exact hb_zero y
    obtain ⟨q, x, rfl⟩ : ∃ q x, t = q ++ [x] := ⟨_, _, (List.dropLast_concat_getLast ht).symm⟩
    rw [List.length_append, List.length_singleton] at hn
    obtain ⟨n1, _, n3⟩ := List.nodup_append.mp nd
    have ih := hb_bits n (by omega) n1
    have hx : hb (bits q) x = false := by
      rw [ih]
      exact decide_eq_false fun m => n3 x m x (List.mem_singleton.mpr rfl) rfl
    rw [bits_snoc, hb_add hx, ih]
    by_cases c : y = x
    · subst c; simp
    · simp [c]
/-! numbers by keys -/
abbrev KD := List ((Nat × Nat) × Nat)
def get2 (L : KD) (k : Nat × Nat) : Nat := ((L.find? fun p => decide (p.1 = k)).map (·.2)).getD 0
def put2 (L : KD) (k : Nat × Nat) (n : Nat) : KD := if (L.any fun p => decide (p.1 = k)) = true then L.map (fun p => if p.1 = k then (p.1, n) else p) else L ++ [(k, n)]
def add2 (L : KD) (k : Nat × Nat) (n : Nat) : KD := put2 L k (get2 L k + n)
def wsum (F : Nat × Nat → Nat) (L : KD) : Nat := (L.map fun e => e.2 * F e.1).sum
theorem put2_keys (L : KD) (k : Nat × Nat) (n : Nat) : (put2 L k n).map (·.1) = if k ∈ L.map (·.1) then L.map (·.1) else L.map (·.1) ++ [k] := by
  unfold put2
  have e : (L.any fun p => decide (p.1 = k)) = decide (k ∈ L.map (·.1)) := by
    rw [Bool.eq_iff_iff, List.any_eq_true, decide_eq_true_eq, List.mem_map]
    constructor
    · rintro ⟨p, hp, h⟩; exact ⟨p, hp, of_decide_eq_true h⟩
    · rintro ⟨p, hp, h⟩; exact ⟨p, hp, decide_eq_true h⟩
  rw [e]
  by_cases c : k ∈ L.map (·.1)
  · rw [if_pos (decide_eq_true c), if_pos c, List.map_map]
    refine List.map_congr_left fun p _ => ?_
    show (if p.1 = k then (p.1, n) else p).1 = p.1
    split <;> rfl
  · rw [if_neg (by rw [decide_eq_false c]; decide), if_neg c, List.map_append]
    rfl
theorem put2_nodup {L : KD} {k : Nat × Nat} {n : Nat} (h : (L.map (·.1)).Nodup) : ((put2 L k n).map (·.1)).Nodup := by
  rw [put2_keys]
  split
  · exact h
  · rename_i c
    rw [List.nodup_append]
    refine ⟨h, by simp, fun a ha b hb e => ?_⟩
    rw [List.mem_singleton.mp hb] at e
    subst e
    exact c ha
theorem wsum_add {F : Nat × Nat → Nat} {n : Nat} {k : Nat × Nat} : ∀ {L : KD}, (L.map (·.1)).Nodup → wsum F (add2 L k n) = wsum F L + n * F k
  | [], _ => by
    show (0 + n) * F k + 0 = 0 + n * F k
    rw [Nat.zero_add, Nat.zero_add, Nat.add_zero]
  | p :: L, h => by
    obtain ⟨h1, h2⟩ := List.nodup_cons.mp h
    by_cases c : p.1 = k
    · have e : add2 (p :: L) k n = (p.1, p.2 + n) :: L := by
        have f1 : (p :: L).find? (fun q => decide (q.1 = k)) = some p := List.find?_cons_of_pos (decide_eq_true c)
        unfold add2 put2 get2
        rw [List.any_cons, decide_eq_true c, Bool.true_or, if_pos rfl, f1, List.map_cons, if_pos c]
        show (p.1, p.2 + n) :: _ = _
        congr 1
        conv => rhs; rw [← List.map_id L]
        refine List.map_congr_left fun q hq => ?_
        rw [if_neg fun e => h1 (show p.1 ∈ L.map (·.1) by rw [c, ← e]; exact List.mem_map.mpr ⟨q, hq, rfl⟩)]
        rfl
      rw [e]
      unfold wsum
      rw [List.map_cons, List.sum_cons, List.map_cons, List.sum_cons]
      show (p.2 + n) * F p.1 + (L.map fun e => e.2 * F e.1).sum = p.2 * F p.1 + (L.map fun e => e.2 * F e.1).sum + n * F k
      rw [c, Nat.add_mul, Nat.add_right_comm]
    · have e : add2 (p :: L) k n = p :: add2 L k n := by
        have f2 : (p :: L).find? (fun q => decide (q.1 = k)) = L.find? (fun q => decide (q.1 = k)) := List.find?_cons_of_neg (by simpa using c)
        unfold add2 put2 get2
        rw [List.any_cons, decide_eq_false c, Bool.false_or, f2, List.map_cons, if_neg c]
        split <;> rfl
      rw [e]
      have ih := wsum_add (F := F) (n := n) (k := k) h2
      unfold wsum at ih ⊢
      rw [List.map_cons, List.sum_cons, List.map_cons, List.sum_cons, ih, Nat.add_assoc]
theorem put2_mem {L : KD} {k : Nat × Nat} {n : Nat} {e : (Nat × Nat) × Nat} (h : e ∈ put2 L k n) : (e = (k, n)) ∨ e ∈ L := by
  unfold put2 at h
  split at h
  · obtain ⟨p, hp, he⟩ := List.mem_map.mp h
    split at he
    · rename_i c
      exact .inl (by rw [← he, c])
    · exact .inr (by rw [← he]; exact hp)
  · rcases List.mem_append.mp h with m | m
    · exact .inr m
    · exact .inl (List.mem_singleton.mp m)
/-- what a dict of numbers stands for -/
structure Lr (L : KD) (T : List (List Nat)) : Prop where
  nd : (L.map (·.1)).Nodup
  pos : ∀ e ∈ L, 0 < e.2
  keys : ∀ e ∈ L, ∃ t ∈ T, (bits t, lst t) = e.1
  sum : ∀ F : Nat × Nat → Nat, wsum F L = (T.map fun t => F (bits t, lst t)).sum
theorem Lr.nil : Lr [] [] := ⟨by simp, by simp, by simp, fun _ => rfl⟩
theorem Lr.one (p : Nat) : Lr [((2 ^ p, p), 1)] [[p]] := ⟨by simp, by simp, fun e he => ⟨[p], by simp, by
  rw [List.mem_singleton.mp he]
  show ((2 ^ p + 0), p) = (2 ^ p, p)
  rw [Nat.add_zero]⟩, fun F => by
  show 1 * F (2 ^ p, p) + 0 = F (2 ^ p + 0, p) + 0
  rw [Nat.one_mul, Nat.add_zero (2 ^ p)]⟩
theorem Lr.one_all {L : KD} {T : List (List Nat)} (h : Lr L T) : (L.map (·.2)).sum = T.length := by
  have e := h.sum fun _ => 1
  unfold wsum at e
  simp only [Nat.mul_one] at e
  rw [e]
  clear e h
  induction T with
  | nil => rfl
  | cons a T ih => rw [List.map_cons, List.sum_cons, ih, List.length_cons]; omega
theorem Lr.empty {L : KD} {T : List (List Nat)} (h : Lr L T) : L = [] ↔ T = [] := by
  have e := h.one_all
  constructor
  · intro c
    rw [c] at e
    exact List.length_eq_zero_iff.mp e.symm
  · intro c
    cases L with
    | nil => rfl
    | cons p L =>
      have := h.pos p List.mem_cons_self
      rw [c, List.map_cons, List.sum_cons] at e
      simp only [List.length_nil] at e
      omega
/-- the dict that longer_ways makes; the inner loop, then the outer one -/
def ext1 (G : Grid) (f : KD) (e : (Nat × Nat) × Nat) (xs : List Nat) : KD := xs.foldl (fun f x => if hb e.1.1 x then f else add2 f (e.1.1 + 2 ^ x, x) e.2) f
def longer (G : Grid) (f : KD) (L : KD) : KD := L.foldl (fun f e => ext1 G f e (row G e.1.2)) f
/-- what the dict is while it is made -/
structure Mid (P : Nat × Nat → Prop) (W : (Nat × Nat → Nat) → Nat) (f : KD) : Prop where
  nd : (f.map (·.1)).Nodup
  pos : ∀ e ∈ f, 0 < e.2
  keys : ∀ e ∈ f, P e.1
  sum : ∀ F : Nat × Nat → Nat, wsum F f = W F
theorem Mid.add {P : Nat × Nat → Prop} {W : (Nat × Nat → Nat) → Nat} {f : KD} (h : Mid P W f) {k : Nat × Nat} {n : Nat} (hk : P k) (hn : 0 < n) : Mid P (fun F => W F + n * F k) (add2 f k n) :=
  ⟨put2_nodup h.nd, fun e he => (put2_mem he).elim (fun c => by rw [c]; show 0 < get2 f k + n; omega) (h.pos e), fun e he => (put2_mem he).elim (fun c => by rw [c]; exact hk) (h.keys e), fun F => by rw [wsum_add h.nd, h.sum]⟩
theorem Mid.ext {P : Nat × Nat → Prop} {G : Grid} {e : (Nat × Nat) × Nat} (hn : 0 < e.2) : ∀ {xs : List Nat} {W : (Nat × Nat → Nat) → Nat} {f : KD}, Mid P W f → (∀ x ∈ xs, hb e.1.1 x = false → P (e.1.1 + 2 ^ x, x)) →
    Mid P (fun F => W F + e.2 * ((xs.filter fun x => !hb e.1.1 x).map fun x => F (e.1.1 + 2 ^ x, x)).sum) (ext1 G f e xs)
  | [], W, f, h, _ => ⟨h.nd, h.pos, h.keys, fun F => by rw [show ext1 G f e [] = f from rfl, h.sum]; simp⟩
  | x :: xs, W, f, h, hP => by
    unfold ext1
    rw [List.foldl_cons]
    cases c : hb e.1.1 x with
    | true =>
      rw [if_pos rfl, List.filter_cons_of_neg (by rw [c]; decide)]
      exact Mid.ext (G := G) hn h fun y hy => hP y (List.mem_cons_of_mem _ hy)
    | false =>
      rw [if_neg (by decide), List.filter_cons_of_pos (by rw [c]; decide)]
      have := Mid.ext (G := G) hn (h.add (hP x List.mem_cons_self c) hn) fun y hy => hP y (List.mem_cons_of_mem _ hy)
      refine ⟨this.nd, this.pos, this.keys, fun F => ?_⟩
      have e1 := this.sum F
      unfold ext1 at e1
      rw [e1, List.map_cons, List.sum_cons, Nat.mul_add]
      omega
theorem Mid.longer {P : Nat × Nat → Prop} {G : Grid} : ∀ {L : KD} {W : (Nat × Nat → Nat) → Nat} {f : KD}, (∀ e ∈ L, 0 < e.2 ∧ ∀ x ∈ row G e.1.2, hb e.1.1 x = false → P (e.1.1 + 2 ^ x, x)) → Mid P W f →
    Mid P (fun F => W F + wsum (fun k => (((row G k.2).filter fun x => !hb k.1 x).map fun x => F (k.1 + 2 ^ x, x)).sum) L) (longer G f L)
  | [], W, f, _, h => ⟨h.nd, h.pos, h.keys, fun F => by rw [show TF.longer G f [] = f from rfl, h.sum]; rfl⟩
  | e :: L, W, f, hL, h => by
    obtain ⟨hn, hx⟩ := hL e List.mem_cons_self
    have := Mid.longer (G := G) (fun e he => hL e (List.mem_cons_of_mem _ he)) (Mid.ext (G := G) hn h hx)
    unfold TF.longer at this ⊢
    rw [List.foldl_cons]
    refine ⟨this.nd, this.pos, this.keys, fun F => ?_⟩
    rw [this.sum F]
    unfold wsum
    rw [List.map_cons, List.sum_cons]
    exact Nat.add_assoc _ _ _
/-- one page longer -/
def exts (G : Grid) (T : List (List Nat)) : List (List Nat) := T.flatMap fun t => (kids G t).map fun u => t ++ [u]
theorem lst_snoc (t : List Nat) (u : Nat) : lst (t ++ [u]) = u := by
  unfold lst
  rw [List.getLast?_append]
  rfl
theorem kids_hb {G : Grid} {t : List Nat} (h : TrOk G t) : kids G t = (row G (lst t)).filter fun x => !hb (bits t) x := by
  unfold kids
  refine List.filter_congr fun x _ => ?_
  rw [hb_bits _ (Nat.le_refl _) h.nd, decide_not]
theorem Lr.step {G : Grid} {L : KD} {T : List (List Nat)} (h : Lr L T) (hT : ∀ t ∈ T, TrOk G t) : Lr (longer G [] L) (exts G T) := by
  have M : Mid (fun k => ∃ t ∈ exts G T, (bits t, lst t) = k) (fun _ => 0) ([] : KD) := ⟨by simp, by simp, by simp, fun _ => rfl⟩
  have key : ∀ t u : Nat, True := fun _ _ => trivial
  have := Mid.longer (G := G) (L := L) (fun e he => ⟨h.pos e he, fun x hx hn => by
    obtain ⟨t, ht, ek⟩ := h.keys e he
    refine ⟨t ++ [x], List.mem_flatMap.mpr ⟨t, ht, List.mem_map.mpr ⟨x, ?_, rfl⟩⟩, ?_⟩
    · rw [kids_hb (hT t ht)]
      rw [← ek] at hx hn
      exact List.mem_filter.mpr ⟨hx, by rw [hn]; rfl⟩
    · rw [bits_snoc, lst_snoc, ← ek]⟩) M
  refine ⟨this.nd, this.pos, this.keys, fun F => ?_⟩
  rw [this.sum F, h.sum, Nat.zero_add]
  unfold exts
  clear this M key h
  induction T with
  | nil => rfl
  | cons t T ih =>
    rw [List.map_cons, List.sum_cons, ih fun t ht => hT t (List.mem_cons_of_mem _ ht), List.flatMap_cons, List.map_append, List.sum_append, List.map_map]
    congr 2
    rw [kids_hb (hT t List.mem_cons_self)]
    refine List.map_congr_left fun x _ => ?_
    show F (bits t + 2 ^ x, x) = F (bits (t ++ [x]), lst (t ++ [x]))
    rw [bits_snoc, lst_snoc]
/-! layer by layer -/
def lay (G : Grid) (p : Nat) : Nat → List (List Nat)
  | 0 => [[p]]
  | k + 1 => exts G (lay G p k)
def dct (G : Grid) (p : Nat) : Nat → KD
  | 0 => [((2 ^ p, p), 1)]
  | k + 1 => longer G [] (dct G p k)
theorem lay_ok {G : Grid} (hG : SiteOk G) {p : Nat} (hp : p < G.length) : ∀ (k : Nat), ∀ t ∈ lay G p k, TrOk G t
  | 0, t, ht => by rw [List.mem_singleton.mp ht]; exact one_ok hp
  | k + 1, t, ht => by
    obtain ⟨q, hq, m⟩ := List.mem_flatMap.mp ht
    obtain ⟨u, hu, rfl⟩ := List.mem_map.mp m
    exact (lay_ok hG hp k q hq).kid hG hu
theorem dct_ok {G : Grid} (hG : SiteOk G) {p : Nat} (hp : p < G.length) : ∀ (k : Nat), Lr (dct G p k) (lay G p k)
  | 0 => Lr.one p
  | k + 1 => (dct_ok hG hp k).step (lay_ok hG hp k)
/-- descendants so deep -/
def dep (G : Grid) : Nat → List (List Nat) → List (List Nat)
  | 0, T => T
  | k + 1, T => dep G k (exts G T)
theorem dep_lev (G : Grid) : ∀ (k : Nat) (T : List (List Nat)), (dep G k T).length = (T.map fun t => lev G k t).sum
  | 0, T => by
    show T.length = (T.map fun _ => 1).sum
    induction T with
    | nil => rfl
    | cons a T ih => rw [List.map_cons, List.sum_cons, ← ih, List.length_cons]; omega
  | k + 1, T => by
    show (dep G k (exts G T)).length = _
    rw [dep_lev G k]
    unfold exts
    induction T with
    | nil => rfl
    | cons t T ih =>
      rw [List.flatMap_cons, List.map_append, List.sum_append, ih, List.map_cons, List.sum_cons, List.map_map]
      rfl
theorem dep_out (G : Grid) : ∀ (k : Nat) (T : List (List Nat)), dep G (k + 1) T = exts G (dep G k T)
  | 0, T => rfl
  | k + 1, T => dep_out G k (exts G T)
theorem lay_dep (G : Grid) (p : Nat) : ∀ k, lay G p k = dep G k [[p]]
  | 0 => rfl
  | k + 1 => by rw [dep_out, ← lay_dep G p k]; rfl
theorem lay_len (G : Grid) (p k : Nat) : (lay G p k).length = lev G k [p] := by
  rw [lay_dep, dep_lev]
  rfl
def cum (G : Grid) (p : Nat) : Nat → Nat
  | 0 => 0
  | i + 1 => cum G p i + (lay G p i).length
theorem cum_size (G : Grid) (p : Nat) : ∀ n, cum G p (n + 1) = size G n [p] := by
  have : ∀ n, cum G p n = ((List.range n).map fun j => lev G j [p]).sum := by
    intro n
    induction n with
    | zero => rfl
    | succ n ih =>
      rw [List.range_succ, List.map_append, List.sum_append, ← ih]
      show cum G p n + _ = cum G p n + (lev G n [p] + 0)
      rw [lay_len]
      rfl
  exact fun n => this (n + 1)
theorem lay_end {G : Grid} (hG : SiteOk G) {p : Nat} (hp : p < G.length) : lay G p G.length = [] := by
  refine List.length_eq_zero_iff.mp ?_
  rw [lay_len]
  exact lev_zero hG _ (one_ok hp) (by rw [List.length_singleton]; omega)
theorem lay_stay {G : Grid} {p m : Nat} (h : lay G p m = []) : ∀ d, lay G p (m + d) = []
  | 0 => h
  | d + 1 => by
    show exts G (lay G p (m + d)) = []
    rw [lay_stay h d]
    rfl
theorem cum_stay {G : Grid} {p m : Nat} (h : lay G p m = []) : ∀ d, cum G p (m + d) = cum G p m
  | 0 => rfl
  | d + 1 => by
    show cum G p (m + d) + (lay G p (m + d)).length = _
    rw [lay_stay h d, cum_stay h d]
    rfl
/-- count_trails' number -/
theorem cum_end {G : Grid} (hG : SiteOk G) (ha : Asc G) {p m : Nat} (hp : p < G.length) (hm : m ≤ G.length) (h : lay G p m = []) : cum G p m = (all G p).length := by
  rw [all_len hG ha hp]
  obtain ⟨d, hd⟩ : ∃ d, G.length = m + d := ⟨G.length - m, by omega⟩
  have e := cum_stay h d
  rw [← e, ← hd]
  obtain ⟨n, hn⟩ : ∃ n, G.length = n + 1 := ⟨G.length - 1, by omega⟩
  unfold big
  rw [List.length_singleton, hn, cum_size, Nat.add_sub_cancel]
theorem lay_lt {G : Grid} (hG : SiteOk G) {p k : Nat} (hp : p < G.length) (h : lay G p k ≠ []) : k < G.length := by
  rcases Nat.lt_or_ge k G.length with c | c
  · exact c
  · exfalso
    obtain ⟨d, hd⟩ : ∃ d, k = G.length + d := ⟨k - G.length, by omega⟩
    rw [hd] at h
    exact h (lay_stay (lay_end hG hp) d)
end TF
set_option Elab.async false
set_option linter.all false
set_option maxRecDepth 100000
set_option maxHeartbeats 4000000
/-! dicts: readings, loops over keys, keys that are texts of lists of digits -/
namespace BC
open PySem PySem.Spec PyProof.Rows L2 Evl
section
variable {K : PySem.W.Frag} {σ : L2.St} {H : Hp} {Q : VK} {QT : Bool → Hp → Prop} {td ty tv tx : TE} {D : Ends} {g : TG} {tb : TS} {c : TE}
theorem x_dnewT : tDNewT σ H Q = ∀ p, H p = none → Q (.ref p) (upd H p (.dT [])) := rfl
theorem x_dget : tDGet td ty σ H Q = td σ H (fun x H1 => ty σ H1 fun y H2 => ∃ a v, x = .ref a ∧ DGet H2 a y (some v) ∧ Q v H2) := rfl
theorem x_dget2 : tDGet2 td ty tx σ H Q = td σ H (fun x H1 => ∃ a, x = .ref a ∧ IsD H1 a ∧ ty σ H1 fun y H2 => tx σ H2 fun z H3 => ∃ o, DGet H3 a y o ∧ Q (o.getD z) H3) := rfl
theorem x_din : tDIn ty td σ H Q = ty σ H (fun y H1 => td σ H1 fun x H2 => ∃ a o, x = .ref a ∧ DGet H2 a y o ∧ Q (.bl o.isSome) H2) := rfl
theorem x_dnotin : tDNotIn ty td σ H Q = ty σ H (fun y H1 => td σ H1 fun x H2 => ∃ a o, x = .ref a ∧ DGet H2 a y o ∧ Q (.bl (!o.isSome)) H2) := rfl
theorem x_dput : sDPut td ty tv D σ H = tv σ H (fun v H1 => td σ H1 fun x H2 => ty σ H2 fun y H3 => ∃ a H4, x = .ref a ∧ DPut H3 a y v H4 ∧ D.nx σ H4) := rfl
end
/-! ### lists of digits, shown -/
def Dg (t : List Int) : Prop := ∀ n ∈ t, 0 ≤ n ∧ n < 10
def digL (cs : List Nat) : List Int := (cs.filter fun c => decide (48 ≤ c) && decide (c < 58)).map fun c : Nat => (c : Int) - 48
theorem digL_append (a b : List Nat) : digL (a ++ b) = digL a ++ digL b := by
  unfold digL
  rw [List.filter_append, List.map_append]
theorem digL_one : ∀ k : Fin 10, digL (Str.ofString (toString ((k.val : Nat) : Int))).cps.toList = [((k.val : Nat) : Int)] := by decide +kernel
theorem digL_int {n : Int} (h0 : 0 ≤ n) (h1 : n < 10) : digL (Str.ofString (toString n)).cps.toList = [n] := by
  have h := digL_one ⟨n.toNat, by omega⟩
  rw [show ((n.toNat : Nat) : Int) = n by omega] at h
  exact h
theorem digL_join : ∀ ns : List Int, Dg ns → digL (Str.join ", " (ns.map fun n => ((toString n : String) : Str))).cps.toList = ns
  | [], _ => by decide +kernel
  | [n], h => by
    obtain ⟨h0, h1⟩ := h n List.mem_cons_self
    exact digL_int h0 h1
  | n :: m :: ns, h => by
    obtain ⟨h0, h1⟩ := h n List.mem_cons_self
    have ih := digL_join (m :: ns) fun x hx => h x (List.mem_cons_of_mem _ hx)
    show digL ((((toString n : String) : Str) ++ ", " ++ Str.join ", " ((m :: ns).map fun n => ((toString n : String) : Str))).cps.toList) = _
    rw [cps_toList_append, cps_toList_append, digL_append, digL_append, ih, digL_int h0 h1, signs_sep]
    rfl
/-! ### dicts by such texts -/
end BC
namespace BC
open PySem PySem.Spec PyProof.Rows L2 Evl
end BC
set_option Elab.async false
set_option linter.all false
set_option maxRecDepth 100000
set_option maxHeartbeats 4000000
/-! dicts whose keys are tuples: for (k, v) in d.items(), list(d.values()), d != {} -/
namespace BC
open PySem PySem.Spec PyProof.Rows L2 Evl
section
variable {X : Cx} {pins : List (Addr × Obj)} {σ : L2.St} {H : Hp} {s : Shared} {d : Addr} {o : Obj}
theorem entry_atT {α : Type} {f : α → DictEntry} {es : Array DictEntry} {xs : List α} (he : es.toList = xs.map f) (i : Nat) : es[i]? = (xs[i]?).map f := by
  rw [← Array.getElem?_toList, he, List.getElem?_map]
/-- a locked dict, entry by entry -/
theorem frzT2 {kvs : List (List Key × V)} (I : Inv X pins σ H s) (h : H d = some (.frz o (.dT kvs))) :
    (d == sysModules) = false ∧ s.heap.get? d = some o ∧ o.ExactDict ∧ ∃ (es : Array DictEntry) (ep : Nat), o.data = .dict es ep ∧ es.size = kvs.length ∧ kvs.length ≤ sizeLine ∧
      ∀ (i : Nat) (hi : i < es.size) (k : List Key) (v : V), kvs[i]? = some (k, v) → ∃ (q : Addr), es[i].key = .ref q ∧ H q = some (.tup (k.map kV)) ∧ RelV v es[i].val := by
  obtain ⟨hd, z, hs, xs, pr, o', es, ep, ho, hx, hdt, he, _⟩ := I.hok d _ h
  rw [hd] at ho
  cases ho
  have l1 : es.size = xs.length := size_of_entries he
  have l2 : kvs.length = xs.length := Paired.length pr
  refine ⟨hs, hd, hx, es, ep, hdt, by omega, z, fun i hi k v e => ?_⟩
  obtain ⟨b, hb, e1, e2, e3⟩ := paired_get pr e
  have q := entry_atT he i
  rw [hb, Array.getElem?_eq_getElem hi] at q
  have q2 : es[i] = entryOfKey (tupleKind (mixKind X.prog X.w)) b := Option.some.inj q
  rw [q2]
  exact ⟨b.2.1, rfl, e2, e3⟩
theorem vals_of_get : ∀ {xs : List V} {us : List Value}, xs.length = us.length → (∀ (j : Nat) v u, xs[j]? = some v → us[j]? = some u → RelV v u) → Vals xs us
  | [], [], _, _ => .nil
  | x :: xs, u :: us, hl, h => .cons (h 0 x u rfl rfl) (vals_of_get (by simpa using hl) fun j v w a b => h (j + 1) v w a b)
theorem raw_of {h : Heap} {es : Array DictEntry} {ep : Nat} (e : h.get? d = some o) (hx : o.ExactDict) (hd : o.data = .dict es ep) : DT.Raw h d es ep := ⟨o, e, hx, hd⟩
end
/-- the pairs of a locked dict, each a new tuple -/
def Itit (d : Addr) (o : Obj) (kvs : List (List Key × V)) : It :=
  ⟨fun i H => H d = some (.frz o (.dT kvs)) ∧ i < kvs.length, fun i H x H' => ∃ T q k v, kvs[i]? = some (k, v) ∧ H q = some (.tup (k.map kV)) ∧ x = .ref T ∧ H T = none ∧ H' = upd H T (.tup [.ref q, v]), fun i H => H d = some (.frz o (.dT kvs)) ∧ kvs.length ≤ i⟩
theorem turn_itemsT {P : Program} {w : World} {K : PySem.W.Frag} {d : Addr} {o : Obj} {es : Array DictEntry} {ep : Nat} {kvs : List (List Key × V)} {elts : List Expr} {kk : Nat} {tpos : Pos} (it : Addr) (hod : o.data = .dict es ep) :
    Turn P w K (.Tuple elts kk tpos) (Itit d o kvs) [it] it (fun i h => ∃ ok ov, IsItemIter h it d i es.size ep ok ov) where
  mem := by simp
  obj := fun i h st b hb => by
    have e : b = it := by simpa using hb
    subst e
    obtain ⟨ok, ov, e⟩ := st
    exact ⟨_, e, fun v z => nomatch z⟩
  keep := fun i h h' st k => let ⟨ok, ov, e⟩ := st; ⟨ok, ov, k it (by simp) _ e⟩
  item := by
    intro X hP hw hK hc i pins s σ H E I hf st hg
    subst hP hw hK
    obtain ⟨hd, hi⟩ := hg
    obtain ⟨hs, hgd, hx, es', ep', hdt, hsz, hz, ent⟩ := frzT2 I hd
    obtain ⟨rfl, rfl⟩ := dict_ep hod hdt
    obtain ⟨⟨k, v⟩, hkv⟩ : ∃ p, kvs[i]? = some p := ⟨kvs[i], List.getElem?_eq_getElem hi⟩
    have hie : i < es'.size := by omega
    obtain ⟨q, hkey, hq, ru⟩ := ent i hie k v hkv
    obtain ⟨ok, ov, he⟩ := st
    have hlt : it < s.heap.objs.size := Heap.lt_size he
    refine DT.nextI he (raw_of hgd hx hdt) hie fun h' ho hT hz' hk => ?_
    refine ⟨_, rfl, wpAny_letOwnedTupleGo_items (s := { s with heap := h' }) ho fun h'' he' sb => ?_⟩
    have hT2 : h''.get? s.heap.objs.size = some { cls := .type "tuple", data := .seq #[es'[i].key, es'[i].val] } := (sb.2 _ (Nat.ne_of_gt hlt)).trans hT
    have new : ObjOk X.prog X.w (upd H s.heap.objs.size (.tup [.ref q, v])) h'' s.heap.objs.size (.tup [.ref q, v]) :=
      ⟨by show 2 ≤ sizeLine; decide, [es'[i].key, es'[i].val], .cons hkey (.cons ru .nil), ⟨_, hT2, rfl, _, rfl⟩⟩
    have I1 : Inv X pins σ (upd H s.heap.objs.size (.tup [.ref q, v])) { s with heap := h'' } :=
      I.turnedNew (t' := s.toks) (ch := [it]) (fun b ob hb e => (sb.2 b (by simpa using hb)).trans (hk b ob (by simpa using hb) e)) hf (Nat.le_refl _) new
    refine ⟨.ref s.heap.objs.size, _, I1, rfl, ⟨_, q, k, v, hkv, hq, rfl, I.hok.fresh (Nat.le_refl _), rfl⟩, ⟨_, _, he'⟩, fun b hb => ?_⟩
    have e : b = it := by simpa using hb
    rw [e, upd_ne (Nat.ne_of_lt hlt)]
    exact (hf it (by simp)).1
  done := by
    intro X hP hw hK hc i pins s σ H E I hf st hg
    subst hP hw hK
    obtain ⟨hd, hi⟩ := hg
    obtain ⟨f0, f1, f2, f3, f4, f5⟩ := hf it (by simp)
    obtain ⟨hs, hgd, hx, es', ep', hdt, hsz, hz, ent⟩ := frzT2 I hd
    obtain ⟨rfl, rfl⟩ := dict_ep hod hdt
    obtain ⟨ok, ov, he⟩ := st
    exact DT.endI (I.ok.hd hc) he (raw_of hgd hx hdt) (by omega) fun h' eb => ⟨rfl, I.turned (t' := s.toks) (fun b ob hb e => eb b ob hb e) f0 f1 f3 f4 f5⟩
  self := fun A i s Q E st h => let ⟨_, _, e⟩ := st; PySem.W.kcp_self e h
def iItemsT (td : TE) : TI := fun σ H R => td σ H fun x H1 => ∃ d o kvs, x = .ref d ∧ H1 d = some (.frz o (.dT kvs)) ∧ R (Itit d o kvs) H1
section
variable {X : Cx} {K : PySem.W.Frag} {e : Expr} {td : TE} {apos cpos : Pos}
theorem pi_itemsT {elts : List Expr} {kk : Nat} {tpos : Pos} (he : PE X e td) (hbase : attributeBase e "items" X.env (eval e X.env) = eval e X.env := by rfl) (hline : (apos.endLine == cpos.line) = true := by rfl) :
    PI X (.Tuple elts kk tpos) (.Call (.Attribute e "items" apos) [] [] cpos) (iItemsT td) := by
  refine ⟨fun pins s σ H R I h => ?_⟩
  refine wpAny_Call_method (T := "dict") (id := "dict.items") hbase rfl hline PySem.F.plainAttrs_dict PySem.F.slot_dict_items PySem.F.type_dict_items (thn (he.run pins s σ H _ I h) fun u s1 ⟨x, H1, I1, rx, d, o, kvs, ex, hd, q⟩ => ?_)
  subst ex
  obtain rfl : u = Value.ref d := rx
  obtain ⟨hs, hgd, hx, es, ep, hdt, hsz, hz, ent⟩ := frzT2 I1 hd
  have hm := raw_of hgd hx hdt
  refine ⟨hm.typeIs, fun a q => by cases q; exact ⟨o, hgd, hx.2.1⟩, ?_⟩
  have I2 : Inv X pins σ H1 { s1 with heap := s1.heap.push { cls := .type "dict_items", data := .fields #[.ref d] } } := I1.kept (t' := s1.toks) fun b ob q => Heap.get?_push_of_some _ q
  have fin : wpAny (model X.prog X.w) X.A (pyIter (.ref s1.heap.objs.size)) (PIE X pins σ (.Tuple elts kk tpos) R) X.xe { s1 with heap := s1.heap.push { cls := .type "dict_items", data := .fields #[.ref d] } } := by
    refine DT.iterI (d := d) ⟨_, Heap.get?_push_size _ rfl, rfl, rfl⟩ (hm.push _) (pi_one (tk := s1.toks) I2 _ (turn_itemsT _ hdt) ⟨.none, .none, ?_⟩ q)
    exact Heap.get?_push_size _ rfl
  show wpAny _ _ (callWith cpos (.builtin "dict.items") [.ref d] [] []) _ X.xe s1
  exact method_meetsIn PySem.F.slot_dict_items PySem.F.entry_dict_items rfl (PySem.evalArgs_none ⟨rfl, hm.typeIs, PySem.F.args_dict_items_1 _, _, DT.meetsItems (es := es) (ep := ep) hs, hm, fin⟩)
theorem x_iitemsT {σ : L2.St} {H : Hp} {R : It → Hp → Prop} : iItemsT td σ H R = td σ H fun x H1 => ∃ d o kvs, x = .ref d ∧ H1 d = some (.frz o (.dT kvs)) ∧ R (Itit d o kvs) H1 := rfl
end
/-! ### list(d.values()) -/
section
variable {X : Cx} {K : PySem.W.Frag} {e : Expr} {td : TE} {apos ipos cpos lpos : Pos}
def tValsT (td : TE) : TE := fun σ H Q => td σ H fun x H1 => ∃ d kvs, x = .ref d ∧ H1 d = some (.dT kvs) ∧ ∀ p, H1 p = none → Q (.ref p) (upd H1 p (.lst (kvs.map (·.2))))
theorem pe_valsT (hc : X.calm = true) (hg : Gl X "list") (hm : X.mg "list" = none) (he : PE X e td) (hbase : attributeBase e "values" X.env (eval e X.env) = eval e X.env := by rfl) (hline : (apos.endLine == cpos.line) = true := by rfl)
    (na : starEach [Expr.Call (.Attribute e "values" apos) [] [] cpos] X.env = (false, eval (.Call (.Attribute e "values" apos) [] [] cpos) X.env) :: starEach [] X.env := by rfl) :
    PE X (.Call (.Name "list" lpos) [.Call (.Attribute e "values" apos) [] [] cpos] [] ipos) (tValsT td) := by
  refine ⟨fun pins s σ H Q I h => ?_⟩
  refine Call_ (ld_blt I hg hm (show bootBuiltins ("list" : Str) = some (.type "list") by decide +kernel) ?_)
  refine callWith_type1 (args_cons ?_ na) na rfl
  refine wpAny_Call_method (T := "dict") (id := "dict.values") hbase rfl hline PySem.F.plainAttrs_dict PySem.F.slot_dict_values PySem.F.type_dict_values (thn (he.run pins s σ H _ I h) fun u s1 ⟨x, H1, I1, rx, d, kvs, ex, hd, q⟩ => ?_)
  subst ex
  obtain rfl : u = Value.ref d := rx
  obtain ⟨z, hs, xs, pr, o, es, ep, ho, hx, hdt, hent, hn⟩ := I1.hok d _ hd
  have l1 : es.size = xs.length := size_of_entries hent
  have l2 : kvs.length = xs.length := Paired.length pr
  have hm1 : s1.heap.DictRaw d es ep := ⟨o, ho, hx, hdt⟩
  refine ⟨hm1.typeIs, fun a q => by cases q; exact ⟨o, ho, hx.2.1⟩, ?_⟩
  show wpAny _ _ (callWith cpos (.builtin "dict.values") [.ref d] [] []) _ X.xe s1
  refine method_meetsIn PySem.F.slot_dict_values PySem.F.entry_dict_values rfl (PySem.evalArgs_none ⟨rfl, hm1.typeIs, PySem.F.args_dict_values_1 _, _, meets_dict_values_raw d hs, ⟨es, ep, hm1⟩, ?_⟩)
  have I2 : Inv X pins σ H1 { s1 with heap := s1.heap.push { cls := .type "dict_values", data := .fields #[.ref d] } } := I1.kept (t' := s1.toks) fun b ob q => Heap.get?_push_of_some _ q
  refine args_nil ?_
  refine PySem.W.kdl_call (KdlSrc.rawValues (r := s1.heap.objs.size) (d := d) (es := es) (ep := ep)) (I2.ok.hd hc) ⟨⟨_, Heap.get?_push_size _ rfl, rfl, rfl⟩, hm1.push _⟩ (by omega) fun h' tk acc' c' kp e it => ?_
  have hl : acc'.toList.length = xs.length := by rw [Array.length_toList, it.1]; exact l1
  have rv : Vals (kvs.map (·.2)) acc'.toList := by
    refine vals_of_get (by rw [List.length_map, l2, hl]) fun j v u hv hu => ?_
    obtain ⟨hj, ev⟩ := it.2 j u (by rw [← Array.getElem?_toList]; exact hu)
    rw [List.getElem?_map] at hv
    obtain ⟨kv, hkv, rfl⟩ : ∃ kv, kvs[j]? = some kv ∧ kv.2 = v := by
      cases c : kvs[j]? with
      | none => rw [c] at hv; cases hv
      | some kv => rw [c] at hv; exact ⟨kv, rfl, Option.some.inj hv⟩
    obtain ⟨b, hb, e1, e2, e3⟩ := paired_get pr (show kvs[j]? = some (kv.1, kv.2) from hkv)
    have q2 := entry_atT hent j
    rw [hb, Array.getElem?_eq_getElem hj] at q2
    have q3 : es[j] = entryOfKey (tupleKind (mixKind X.prog X.w)) b := Option.some.inj q2
    rw [ev, q3]
    exact e3
  have hz : (kvs.map (·.2)).length ≤ sizeLine := by rw [List.length_map]; exact z
  have hp : H1 (s1.heap.push { cls := .type "dict_values", data := .fields #[.ref d] }).objs.size = none := I2.hok.fresh (Nat.le_refl _)
  refine ⟨.ref _, _, I2.laid (t' := tk) (o := .lst (kvs.map (·.2))) kp (Nat.le_refl _) ?_, rfl, q _ hp⟩
  exact ⟨hz, acc'.toList, c', rv, by rw [Array.toArray_toList]; exact e⟩
theorem x_valsT {σ : L2.St} {H : Hp} {Q : VK} : tValsT td σ H Q = td σ H fun x H1 => ∃ d kvs, x = .ref d ∧ H1 d = some (.dT kvs) ∧ ∀ p, H1 p = none → Q (.ref p) (upd H1 p (.lst (kvs.map (·.2)))) := rfl
end
/-! ### d != {} -/
section
variable {prog : Program} {w : World} {A : Around} {E : Value → Shared → Prop} {s : Shared}
theorem same_empty {nm : String} {a b : Addr} {es : Array DictEntry} {ep ep' : Nat} {Q : Bool → Shared → Prop} (ha : (a == sysModules) = false) (hb : (b == sysModules) = false) (da : DT.Raw s.heap a es ep) (db : DT.Raw s.heap b #[] ep') (h : Q (es.size == 0) s) :
    wpAny (model prog w) A (Builtin.Dict.samePairs nm a b) Q E s := by
  obtain ⟨oa, hoa, _, hda⟩ := da
  obtain ⟨ob, hob, _, hdb⟩ := db
  unfold Builtin.Dict.samePairs Builtin.Dict.showsAll
  rw [if_neg (show ¬ (a == sysModules) = true by rw [ha]; exact Bool.false_ne_true), if_neg (show ¬ (b == sysModules) = true by rw [hb]; exact Bool.false_ne_true)]
  refine wpAny_bind (wpAny_pure (wpAny_bind (wpAny_pure ?_)))
  refine wpAny_bind (wpAny_dictEntries hoa hda ?_)
  dsimp only
  refine wpAny_bind (wpAny_dictEntries hob hdb ?_)
  by_cases hsz : es.size = 0
  case neg =>
    rw [if_pos (by simpa using hsz)]
    have hbf : (es.size == 0) = false := by simpa using hsz
    rw [hbf] at h
    exact wpAny_bind (wpAny_rule (wpAny_pure h))
  case pos =>
    rw [if_neg (by rw [hsz]; decide)]
    refine wpAny_bind (wpAny_dictEpoch hoa hda ?_)
    refine wpAny_bind ?_
    rw [Std.Legacy.Range.forIn_eq_forIn_range']
    simp only [Std.Legacy.Range.size, Nat.sub_zero, Nat.add_sub_cancel, Nat.div_one, hsz]
    have h' : Q true s := by rw [hsz] at h; exact h
    exact wpAny_pure (wpAny_pure h')
theorem ne_empty {a b : Addr} {es : Array DictEntry} {ep ep' : Nat} {Q : Value → Shared → Prop} (ha : (a == sysModules) = false) (hb : (b == sysModules) = false) (da : DT.Raw s.heap a es ep) (db : DT.Raw s.heap b #[] ep') (hu : A.units < cLine) (h : Q (.bool (!(es.size == 0))) s) :
    wpAny (model prog w) A (compareOp .NotEq (.ref a) (.ref b)) Q E s := by
  refine wpAny_richCompare_same_room (op := .NotEq) da.typeIs db.typeIs PySem.F.slot_dict_ne (wpAny_call_entry PySem.F.slot_dict_ne da.typeIs PySem.F.entry_dict_ne ?_ (PySem.F.args_dict_ne_2 _ _)) hu
  show wpAny _ _ (Builtin.Dict.dictSlotArgs "__ne__" ⟨[.ref a, .ref b], []⟩ >>= _) _ _ s
  refine wpAny_bind ?_
  unfold Builtin.Dict.dictSlotArgs
  refine wpAny_bind (wpAny_notOrdered_dict da.typeIs ?_)
  show wpAny _ _ (pure (Value.ref a, Value.ref b)) _ _ s
  refine wpAny_pure ?_
  refine wpAny_bind (wpAny_isInstance (T := "dict") db.typeIs PySem.F.sub_dict_dict ?_)
  simp only [Bool.not_true, Bool.false_eq_true, if_false]
  refine wpAny_bind (wpAny_pure (wpAny_bind (wpAny_pure ?_)))
  refine wpAny_bind (same_empty ha hb da db ?_)
  refine wpAny_pure ⟨_, rfl, ?_, ?_⟩
  · exact fun x => nomatch x
  · simpa using h
end
section
variable {X : Cx}
def rNeE : R2 := fun x y H Q => ∃ a b kvs, x = .ref a ∧ y = .ref b ∧ H a = some (.dT kvs) ∧ H b = some (.dT []) ∧ Q (.bl (!decide (kvs = []))) H
theorem op_neE (hu : X.A.units + 64 < cLine) : OpR X (compareOp .NotEq) rNeE := by
  intro pins s σ H x y v u Q I rx ry h
  obtain ⟨a, b, kvs, rfl, rfl, ea, eb, q⟩ := h
  obtain rfl : v = Value.ref a := rx
  obtain rfl : u = Value.ref b := ry
  obtain ⟨_, ya, xs, pr, oa, es, ep, hoa, hxa, hda, hent, _⟩ := (show ObjOk X.prog X.w H s.heap a (.dT kvs) from I.hok a _ ea)
  obtain ⟨_, yb, xs2, pr2, ob, es2, ep2, hob, hxb, hdb, hent2, _⟩ := (show ObjOk X.prog X.w H s.heap b (.dT []) from I.hok b _ eb)
  cases pr2
  have z2 : es2 = #[] := by
    apply Array.toList_inj.mp
    rw [hent2]
    rfl
  subst z2
  have l1 : es.size = xs.length := size_of_entries hent
  have l2 : kvs.length = xs.length := Paired.length pr
  have e : (!(es.size == 0)) = (!decide (kvs = [])) := by
    rw [l1, ← l2]
    cases kvs with
    | nil => rfl
    | cons x r => simp
  refine ne_empty ya yb (raw_of hoa hxa hda) (raw_of hob hxb hdb) (by omega) ?_
  rw [e]
  exact ⟨.bl _, H, I, rfl, q⟩
end
/-! ### {(a, b): v} -/
section
variable {X : Cx} {pos : Pos} {k v : Expr} {tk tv : TE}
def tDispT1 (tk tv : TE) : TE := fun σ H Q => ∀ p, H p = none → tk σ (upd H p (.dT [])) fun x H1 => tv σ H1 fun y H2 => ∃ (q : Addr) (ks : List Key), x = .ref q ∧ H2 q = some (.tup (ks.map kV)) ∧ H2 p = some (.dT []) ∧ Q (.ref p) (upd H2 p (.dT [(ks, y)]))
theorem pe_dispT1 (hu : X.A.units + 1 < cLine) (hk : PE X k tk) (hv : PE X v tv) : PE X (.Dict [some k] [v] pos) (tDispT1 tk tv) := by
  refine ⟨fun pins s σ H Q I q => ?_⟩
  have hn := I.hok.fresh (Nat.le_refl s.heap.objs.size)
  have I1 := I.laid (a := s.heap.objs.size) (o := .dT []) (h' := s.heap.push { cls := .type "dict", data := .dict #[] }) (t' := s.toks) (fun _ _ q => Heap.get?_push_of_some _ q) (Nat.le_refl _) (dt_empty s.heap I.big)
  have pp : PPs X pos [some k] [v] [(tk, tv)] := pps_cons hk hv pps_nil
  have hp : tPairs [(tk, tv)] σ (upd H s.heap.objs.size (.dT [])) fun ps H2 => match ps with
      | [(x, y)] => ∃ (q : Addr) (ks : List Key), x = .ref q ∧ H2 q = some (.tup (ks.map kV)) ∧ H2 s.heap.objs.size = some (.dT []) ∧ Q (.ref s.heap.objs.size) (upd H2 s.heap.objs.size (.dT [(ks, y)]))
      | _ => False := q _ hn
  have hl : (pairTrees [some k] [v] X.env pos).length = 1 := pairTrees_length [some k] [v] X.env pos rfl rfl
  rw [arm_eval_Dict, zip_pairTrees [some k] [v] X.env pos rfl rfl, dictDisplay_pairs _ (fun he => by rw [he] at hl; cases hl) (by rw [hl]; omega)]
  refine wpAny_bind (wpAny_standAt (wpAny_bind (wpAny_subDictH (knd := tupleKind (mixKind X.prog X.w)) (Q := fun d s' => wpAny (model X.prog X.w) X.A (pure (Value.ref d)) (EP X pins σ Q) X.xe s') (show X.A.units < cLine by omega) (by rw [hl]; omega)
    (wpAny_mono (pp.run pins _ σ _ _ I1 hp) (fun ws s2 h2 => ?_) fun _ _ e => e))))
  obtain ⟨ps, H2, I2, rel, h3⟩ := h2
  match ps, rel, h3 with
  | [(x, y)], rel, h3 =>
    obtain ⟨qa, ks, rfl, hq, hP, q2⟩ := h3
    cases rel with
    | @cons a b as bs r1 r2 =>
      cases r2
      obtain ⟨b1, b2⟩ := b
      obtain ⟨ra, rb⟩ := r1
      cases ra
      obtain ⟨z, hd, xs, kt, dd⟩ := dt_of I2.hok hP
      cases kt
      refine ⟨[(ks, qa, b2)], ⟨rfl, rfl, key_of I2.hok hq, trivial⟩, dd, fun h' tk' dd' hs => wpAny_pure ⟨.ref s.heap.objs.size, _, ?_, rfl, q2⟩⟩
      obtain ⟨qo, es, ep, hqo, h2', h3', h4', _, h5'⟩ := dd'
      refine d_write I2 (by rw [hP]; exact True.intro) hs ⟨qo, hqo⟩ ⟨by show 1 ≤ sizeLine; decide, hd, [(ks, qa, b2)], .cons ⟨rfl, ?_, rb⟩ .nil, qo, es, ep, hqo, h2', h3', h4', h5'⟩
      rw [upd_ne (ne_of hq hP (fun z => nomatch z))]
      exact hq
theorem x_dispT1 {σ : L2.St} {H : Hp} {Q : VK} : tDispT1 tk tv σ H Q = ∀ p, H p = none → tk σ (upd H p (.dT [])) fun x H1 => tv σ H1 fun y H2 => ∃ (q : Addr) (ks : List Key), x = .ref q ∧ H2 q = some (.tup (ks.map kV)) ∧ H2 p = some (.dT []) ∧ Q (.ref p) (upd H2 p (.dT [(ks, y)])) := rfl
end
end BC
set_option Elab.async false
set_option linter.all false
set_option maxRecDepth 100000
set_option maxHeartbeats 4000000
/-! constants that are tuples of numbers, sorted of a list of lists of numbers that ascends already -/
namespace BC
open PySem PySem.Spec PyProof.Rows L2 Evl
/-- a tuple of numbers that the module holds -/
def TupK (K : PySem.W.Frag) (a : Addr) (ns : List Int) : Prop := ∃ (o : Obj) (its : Array Value) (n : Nat), K.lookup a = some o ∧ o.cls = .type "tuple" ∧ o.data = .seq its n ∧ its.size ≤ sizeLine ∧ Vals (ns.map V.int) its.toList
theorem TupK.at {K : PySem.W.Frag} {a : Addr} {ns : List Int} (h : TupK K a ns) (H : Hp) : SqT K H a (ns.map V.int) := .inr h
/-! ### sorted(rows) -/
/-! ### dicts of numbers by pairs -/
def ky (k : Nat × Nat) : List Key := [Sum.inl (k.1 : Int), Sum.inl (k.2 : Int)]
theorem ky_inj {a b : Nat × Nat} : ky a = ky b ↔ a = b := by
  constructor
  · intro h
    obtain ⟨a1, a2⟩ := a
    obtain ⟨b1, b2⟩ := b
    have h1 := (List.cons.inj h).1
    have h2 := (List.cons.inj (List.cons.inj h).2).1
    have e1 : (a1 : Int) = (b1 : Int) := Sum.inl.inj h1
    have e2 : (a2 : Int) = (b2 : Int) := Sum.inl.inj h2
    rw [Int.ofNat_inj.mp e1, Int.ofNat_inj.mp e2]
  · intro h; rw [h]
def renP (L : TF.KD) : List (List Key × V) := L.map fun e => (ky e.1, V.int (e.2 : Nat))
theorem renP_len (L : TF.KD) : (renP L).length = L.length := by unfold renP; rw [List.length_map]
theorem renP_val (k : Nat × Nat) : ∀ L : TF.KD, valV (renP L) (ky k) = (L.find? fun p => decide (p.1 = k)).map fun p => V.int (p.2 : Nat)
  | [] => rfl
  | p :: L => by
    have ih := renP_val k L
    unfold valV renP at ih ⊢
    rw [List.map_cons]
    by_cases c : p.1 = k
    · have f1 : (p :: L).find? (fun p => decide (p.1 = k)) = some p := List.find?_cons_of_pos (decide_eq_true c)
      have f2 : ((ky p.1, V.int (p.2 : Nat)) :: L.map fun e => (ky e.1, V.int (e.2 : Nat))).find? (fun kv => decide (kv.1 = ky k)) = some (ky p.1, V.int (p.2 : Nat)) := List.find?_cons_of_pos (decide_eq_true (ky_inj.mpr c))
      rw [f1, f2]
      rfl
    · have f1 : (p :: L).find? (fun p => decide (p.1 = k)) = L.find? (fun p => decide (p.1 = k)) := List.find?_cons_of_neg (by simpa using c)
      have f2 : ((ky p.1, V.int (p.2 : Nat)) :: L.map fun e => (ky e.1, V.int (e.2 : Nat))).find? (fun kv => decide (kv.1 = ky k)) = (L.map fun e => (ky e.1, V.int (e.2 : Nat))).find? (fun kv => decide (kv.1 = ky k)) := List.find?_cons_of_neg (by simpa using fun z => c (ky_inj.mp z))
      rw [f1, f2]
      exact ih
theorem renP_get (L : TF.KD) (k : Nat × Nat) : (valV (renP L) (ky k)).getD (V.int 0) = V.int (TF.get2 L k : Nat) := by
  rw [renP_val]
  unfold TF.get2
  cases L.find? fun p => decide (p.1 = k) with
  | none => rfl
  | some p => rfl
theorem renP_put (L : TF.KD) (k : Nat × Nat) (n : Nat) : putK (renP L) (ky k) (V.int (n : Nat)) = renP (TF.put2 L k n) := by
  have e : ((renP L).any fun kv => decide (kv.1 = ky k)) = L.any fun p => decide (p.1 = k) := by
    unfold renP
    rw [List.any_map]
    congr 1
    funext p
    exact decide_eq_decide.mpr ky_inj
  unfold putK TF.put2
  rw [e]
  split
  · unfold renP
    rw [List.map_map, List.map_map]
    refine List.map_congr_left fun p _ => ?_
    show (if ky p.1 = ky k then (ky p.1, V.int (n : Nat)) else (ky p.1, V.int (p.2 : Nat))) = (ky (if p.1 = k then (p.1, n) else p).1, V.int ((if p.1 = k then (p.1, n) else p).2 : Nat))
    by_cases c : p.1 = k
    · rw [if_pos c, if_pos (ky_inj.mpr c)]
    · rw [if_neg c, if_neg fun z => c (ky_inj.mp z)]
  · unfold renP
    rw [List.map_append]
    rfl
theorem renP_at {L : TF.KD} {i : Nat} {e : (Nat × Nat) × Nat} (h : L[i]? = some e) : (renP L)[i]? = some (ky e.1, V.int (e.2 : Nat)) := by unfold renP; rw [List.getElem?_map, h]; rfl
theorem renP_nil (L : TF.KD) : renP L = [] ↔ L = [] := by
  unfold renP
  exact List.map_eq_nil_iff
theorem renP_vals (L : TF.KD) : (renP L).map (·.2) = ((L.map (·.2)).map fun n : Nat => (n : Int)).map V.int := by
  unfold renP
  rw [List.map_map, List.map_map, List.map_map]
  rfl
/-! ### for (a, b), n in d.items() -/
theorem lg_itemsT {σ : L2.St} {H : Hp} {D : Ends} {g : TG} {tb : TS} {d : Addr} {o : Obj} {kvs : List (List Key × V)} (Pv : Nat → L2.St → Hp → Prop) (h0 : Pv 0 σ H) (hl : ∀ i σ H, i ≤ kvs.length → Pv i σ H → H d = some (.frz o (.dT kvs)))
    (hs : ∀ i k v σ H T q, kvs[i]? = some (k, v) → Pv i σ H → H T = none → H q = some (.tup (k.map kV)) → g (.ref T) σ (upd H T (.tup [.ref q, v])) fun σ2 H2 => tb { D with nx := Pv (i + 1), ct := Pv (i + 1), bk := D.nx } σ2 H2) (hd : ∀ σ H, Pv kvs.length σ H → D.nx σ H) : LoopG (Itit d o kvs) g tb D σ H := by
  refine ⟨fun i m σ H => m = kvs.length - i ∧ i ≤ kvs.length ∧ Pv i σ H, ⟨kvs.length, by simp, Nat.zero_le _, h0⟩, ?_⟩
  rintro i m σ H ⟨rfl, hi, p⟩
  have q := hl i σ H hi p
  by_cases hlt : i < kvs.length
  · refine .inr ⟨⟨q, hlt⟩, Pv (i + 1), fun σ' H' p' => ⟨kvs.length - (i + 1), by omega, rfl, hlt, p'⟩, fun x H' y => ?_⟩
    obtain ⟨T, qq, k, v, e, hq, rfl, nT, rfl⟩ := y
    exact hs i k v σ H T qq e p nT hq
  · have e : i = kvs.length := by omega
    subst e
    exact .inl ⟨⟨q, Nat.le_refl _⟩, hd σ H p⟩
theorem x_lockT {t : TS} {D : Ends} {σ : L2.St} {H : Hp} : tLock t D σ H = ∃ d u, H d = some u ∧ Mut (some u) ∧ ∀ od, t ⟨fun σ' H' => H' d = some (.frz od u) ∧ D.nx σ' (upd H' d u), fun v H' => H' d = some (.frz od u) ∧ D.rt v (upd H' d u), fun σ' H' => H' d = some (.frz od u) ∧ D.bk σ' (upd H' d u), fun σ' H' => H' d = some (.frz od u) ∧ D.ct σ' (upd H' d u)⟩ σ (upd H d (.frz od u)) := rfl
end BC
set_option Elab.async false
set_option linter.all false
set_option maxRecDepth 100000
set_option maxHeartbeats 4000000
/-! the number of trails: told by the set and the last page; on all links; on a site turned round (k79, plain) -/
namespace TF
open BC
theorem lev_same {G : Grid} : ∀ (j : Nat) {t u : List Nat}, (∀ y, y ∈ t ↔ y ∈ u) → lst t = lst u → lev G j t = lev G j u
  | 0, _, _, _, _ => rfl
  | j + 1, t, u, h, e => by
    have k : kids G t = kids G u := by
      unfold kids
      rw [e]
      exact List.filter_congr fun y _ => decide_eq_decide.mpr (not_congr (h y))
    show ((kids G t).map fun x => lev G j (t ++ [x])).sum = ((kids G u).map fun x => lev G j (u ++ [x])).sum
    rw [k]
    congr 1
    exact List.map_congr_left fun x _ => lev_same j (fun y => by rw [List.mem_append, List.mem_append, h y]) (by rw [lst_snoc, lst_snoc])
theorem big_same {G : Grid} {t u : List Nat} (ht : TrOk G t) (hu : TrOk G u) (h : ∀ y, y ∈ t ↔ y ∈ u) (e : lst t = lst u) : big G t = big G u := by
  have l : t.length = u.length := ((List.perm_ext_iff_of_nodup ht.nd hu.nd).mpr h).length_eq
  unfold big size
  rw [l]
  congr 1
  exact List.map_congr_left fun j _ => lev_same j h e
theorem bits_mem {G : Grid} {t u : List Nat} (ht : TrOk G t) (hu : TrOk G u) (h : bits t = bits u) (y : Nat) : y ∈ t ↔ y ∈ u := by
  have a := hb_bits t.length (Nat.le_refl _) ht.nd y
  have b := hb_bits u.length (Nat.le_refl _) hu.nd y
  rw [h, b] at a
  exact decide_eq_decide.mp a.symm
theorem lst_mem {t : List Nat} (h : t ≠ []) : lst t ∈ t := by
  unfold lst
  rw [List.getLast?_eq_some_getLast h]
  exact List.getLast_mem h
/-- the law's key -/
def ky (t : List Nat) : Nat := bits t * 16 + lst t
theorem big_key {G : Grid} (h12 : G.length ≤ 12) {t u : List Nat} (ht : TrOk G t) (hu : TrOk G u) (h : ky t = ky u) : big G t = big G u := by
  have a := ht.lt _ (lst_mem ht.ne)
  have b := hu.lt _ (lst_mem hu.ne)
  unfold ky at h
  have e1 : bits t = bits u := by omega
  exact big_same ht hu (bits_mem ht hu e1) (by omega)
/-! all links -/
def full (n : Nat) : Grid := (List.range n).map fun i => (List.range n).filter fun j => decide (j ≠ i)
theorem full_len (n : Nat) : (full n).length = n := by unfold full; rw [List.length_map, List.length_range]
theorem full_row {n i : Nat} (h : i < n) : row (full n) i = (List.range n).filter fun j => decide (j ≠ i) := by
  unfold row full
  rw [List.getD_eq_getElem?_getD, List.getElem?_map, List.getElem?_range h]
  rfl
theorem full_kids {n : Nat} {t : List Nat} (h : TrOk (full n) t) : kids (full n) t = (List.range n).filter fun j => decide (j ∉ t) := by
  have hl := h.lt _ (lst_mem h.ne)
  rw [full_len] at hl
  unfold kids
  rw [full_row hl, List.filter_filter]
  refine List.filter_congr fun y _ => ?_
  by_cases c : y ∈ t
  · rw [decide_eq_false (not_not_intro c), Bool.false_and]
  · rw [decide_eq_true c, Bool.true_and]
    exact decide_eq_true fun e => c (e ▸ lst_mem h.ne)
theorem full_many {n : Nat} {t : List Nat} (h : TrOk (full n) t) : (kids (full n) t).length + t.length = n := by
  rw [full_kids h]
  have p : ((List.range n).filter fun j => decide (j ∉ t)) ++ t |>.Perm (List.range n) := by
    refine (List.perm_ext_iff_of_nodup ?_ List.nodup_range).mpr fun y => ?_
    · rw [List.nodup_append]
      refine ⟨List.nodup_range.filter _, h.nd, fun a hA b hB e => ?_⟩
      subst e
      exact of_decide_eq_true (List.mem_filter.mp hA).2 hB
    · rw [List.mem_append, List.mem_filter, List.mem_range, decide_eq_true_eq]
      refine ⟨fun q => q.elim (·.1) fun m => ?_, fun q => ?_⟩
      · have := h.lt _ m
        rw [full_len] at this
        exact this
      · by_cases c : y ∈ t
        · exact .inr c
        · exact .inl ⟨q, c⟩
  have := p.length_eq
  rw [List.length_append, List.length_range] at this
  exact this
theorem sum_same {c : Nat} {f : Nat → Nat} : ∀ {l : List Nat}, (∀ x ∈ l, f x = c) → (l.map f).sum = l.length * c
  | [], _ => by simp
  | a :: l, h => by
    rw [List.map_cons, List.sum_cons, h a List.mem_cons_self, sum_same fun x hx => h x (List.mem_cons_of_mem _ hx), List.length_cons, Nat.succ_mul, Nat.add_comm]
theorem full_big {n : Nat} (ok : SiteOk (full n)) : ∀ (r : Nat) {t : List Nat}, TrOk (full n) t → t.length + r = n → big (full n) t = bnd r
  | 0, t, h, hr => by
    have := full_many h
    have k0 : kids (full n) t = [] := List.length_eq_zero_iff.mp (by omega)
    rw [big_eq ok h, k0]
    rfl
  | r + 1, t, h, hr => by
    have hk := full_many h
    rw [big_eq ok h, sum_same (c := bnd r) fun u hu => full_big ok r (h.kid ok hu) (by rw [List.length_append, List.length_singleton]; omega)]
    show _ = 1 + (r + 1) * bnd r
    rw [show (kids (full n) t).length = r + 1 by omega]
/-- the law's sum and product -/
def lprod (n : Nat) : Nat → Nat
  | 0 => 1
  | i + 1 => lprod n i * (n - (i + 1))
def ltot (n : Nat) : Nat → Nat
  | 0 => 0
  | i + 1 => ltot n i + lprod n i
theorem tot_bnd : ∀ n ∈ [4, 9, 12], ltot n n = bnd (n - 1) := by decide +kernel
/-! turned round -/
inductive TrP (G : Grid) (p : Nat) : List Nat → Prop
  | one : TrP G p [p]
  | snoc {q : List Nat} {x : Nat} : TrP G p q → x ∈ row G (lst q) → x ∉ q → TrP G p (q ++ [x])
theorem TrP.ne {G : Grid} {p : Nat} {t : List Nat} (h : TrP G p t) : t ≠ [] := by cases h <;> simp
theorem TrP.nd {G : Grid} {p : Nat} {t : List Nat} (h : TrP G p t) : t.Nodup := by
  induction h with
  | one => simp
  | snoc _ _ hn ih =>
    rw [List.nodup_append]
    refine ⟨ih, by simp, fun a ha b hb e => ?_⟩
    rw [List.mem_singleton.mp hb] at e
    exact hn (e ▸ ha)
theorem TrP.head {G : Grid} {p : Nat} {t : List Nat} (h : TrP G p t) : t.head? = some p := by
  induction h with
  | one => rfl
  | @snoc q x hq _ _ ih =>
    cases q with
    | nil => cases ih
    | cons a q => exact ih
theorem TrP.lt {G : Grid} (ok : SiteOk G) {p : Nat} (hp : p < G.length) {t : List Nat} (h : TrP G p t) : ∀ x ∈ t, x < G.length := by
  induction h with
  | one => intro x hx; rw [List.mem_singleton.mp hx]; exact hp
  | snoc _ hx _ ih =>
    intro y hy
    rcases List.mem_append.mp hy with m | m
    · exact ih y m
    · rw [List.mem_singleton.mp m]; exact ok.rlt hx
theorem stk_in {G : Grid} (ok : SiteOk G) (ha : Asc G) {p : Nat} (hp : p < G.length) {v : List Nat} : ∀ (d : Nat) {i : Nat} {t : List Nat}, (all G p)[i]? = some t → v ∈ stk G t → (all G p).length ≤ i + d → v ∈ all G p
  | 0, i, t, ht, _, hd => by
    have := (List.getElem?_eq_some_iff.mp ht).1
    omega
  | d + 1, i, t, ht, hv, hd => by
    obtain ⟨okt, e⟩ := all_next ok ha hp ht
    cases c : stk G t with
    | nil => rw [c] at hv; cases hv
    | cons u R =>
      have hn : nxt G t = some u := by unfold nxt; rw [c]; rfl
      rw [hn] at e
      have hr := stk_head ha okt.ne c
      rw [c] at hv
      rcases List.mem_cons.mp hv with rfl | m
      · exact List.mem_of_getElem? e
      · refine stk_in ok ha hp d e ?_ (by omega)
        unfold stk
        rw [hr]
        exact List.mem_append_right _ m
theorem TrP.mem {G : Grid} (ok : SiteOk G) (ha : Asc G) {p : Nat} (hp : p < G.length) {t : List Nat} (h : TrP G p t) : t ∈ all G p := by
  induction h with
  | one => exact List.mem_of_getElem? all_zero
  | @snoc q x hq hx hn ih =>
    obtain ⟨i, hi⟩ := List.getElem?_of_mem ih
    refine stk_in ok ha hp (all G p).length hi ?_ (by omega)
    unfold stk
    refine List.mem_append_left _ (List.mem_map.mpr ⟨x, ?_, rfl⟩)
    exact List.mem_filter.mpr ⟨hx, decide_eq_true hn⟩
theorem rest_tr {G : Grid} {p : Nat} {t : List Nat} (h : TrP G p t) : ∀ v ∈ rest G t, TrP G p v := by
  induction h with
  | one => intro v hv; rw [rest_one] at hv; cases hv
  | @snoc q x hq hx hn ih =>
    intro v hv
    rw [rest_snoc hq.ne] at hv
    rcases List.mem_append.mp hv with m | m
    · obtain ⟨u, hu, rfl⟩ := List.mem_map.mp m
      obtain ⟨h1, h2⟩ := List.mem_filter.mp hu
      rw [Bool.and_eq_true, decide_eq_true_eq, decide_eq_true_eq] at h2
      exact .snoc hq h1 h2.2
    · exact ih v m
theorem all_tr {G : Grid} (ok : SiteOk G) (ha : Asc G) {p : Nat} (hp : p < G.length) : ∀ (i : Nat) {t : List Nat}, (all G p)[i]? = some t → TrP G p t
  | 0, t, h => by
    rw [all_zero] at h
    cases h
    exact .one
  | i + 1, t, h => by
    have hi := (List.getElem?_eq_some_iff.mp h).1
    obtain ⟨u, hu⟩ : ∃ u, (all G p)[i]? = some u := ⟨_, List.getElem?_eq_getElem (by omega)⟩
    have ih := all_tr ok ha hp i hu
    rw [(all_next ok ha hp hu).2] at h
    have hm : t ∈ stk G u := List.mem_of_head? h
    unfold stk at hm
    rcases List.mem_append.mp hm with m | m
    · obtain ⟨x, hx, rfl⟩ := List.mem_map.mp m
      obtain ⟨h1, h2⟩ := List.mem_filter.mp hx
      exact .snoc ih h1 (of_decide_eq_true h2)
    · exact rest_tr ih t m
theorem mem_all {G : Grid} (ok : SiteOk G) (ha : Asc G) {p : Nat} (hp : p < G.length) {t : List Nat} : t ∈ all G p ↔ TrP G p t :=
  ⟨fun m => let ⟨_, hi⟩ := List.getElem?_of_mem m; all_tr ok ha hp _ hi, fun h => h.mem ok ha hp⟩
theorem all_nd (G : Grid) (p : Nat) : (all G p).Nodup := (all_asc G p).imp fun h e => by rw [e] at h; exact List.lt_irrefl _ h
/-- links, page after page -/
def Lk (G : Grid) : List Nat → Prop
  | [] => True
  | [_] => True
  | x :: y :: r => y ∈ row G x ∧ Lk G (y :: r)
theorem lk_snoc {G : Grid} {x : Nat} : ∀ {q : List Nat}, q ≠ [] → (Lk G (q ++ [x]) ↔ Lk G q ∧ x ∈ row G (lst q))
  | [], h => absurd rfl h
  | [a], _ => by simp [Lk, lst]
  | a :: b :: q, _ => by
    have ih := lk_snoc (G := G) (x := x) (q := b :: q) (by simp)
    have e : lst (a :: b :: q) = lst (b :: q) := by unfold lst; rw [List.getLast?_cons_cons]
    rw [e]
    show (b ∈ row G a ∧ Lk G ((b :: q) ++ [x])) ↔ (b ∈ row G a ∧ Lk G (b :: q)) ∧ _
    rw [ih]
    exact ⟨fun h => ⟨⟨h.1, h.2.1⟩, h.2.2⟩, fun h => ⟨h.1.1, h.1.2, h.2⟩⟩
theorem trp_iff {G : Grid} {p : Nat} : ∀ (n : Nat) {t : List Nat}, t.length = n → (TrP G p t ↔ t.head? = some p ∧ t.Nodup ∧ Lk G t)
  | 0, t, h => by
    have : t = [] := List.length_eq_zero_iff.mp h
    subst this
    exact ⟨fun q => absurd rfl q.ne, fun q => by cases q.1⟩
  | n + 1, t, h => by
    have ne : t ≠ [] := fun e => by subst e; cases h
    obtain ⟨q, x, rfl⟩ : ∃ q x, t = q ++ [x] := ⟨_, _, (List.dropLast_concat_getLast ne).symm⟩
    have lq : q.length = n := by rw [List.length_append, List.length_singleton] at h; omega
    by_cases hq : q = []
    · subst hq
      refine ⟨fun hh => ⟨hh.head, by simp, trivial⟩, fun hh => ?_⟩
      obtain rfl : x = p := Option.some.inj hh.1
      exact .one
    have ih := trp_iff (G := G) (p := p) n lq
    have hd : (q ++ [x]).head? = q.head? := by
      cases q with
      | nil => exact absurd rfl hq
      | cons a q => rfl
    rw [hd, lk_snoc hq, List.nodup_append]
    constructor
    · intro hh
      generalize e : q ++ [x] = t at hh
      cases hh with
      | one =>
        exfalso
        have := congrArg List.length e
        rw [List.length_append, List.length_singleton, List.length_singleton] at this
        exact hq (List.length_eq_zero_iff.mp (by omega))
      | @snoc q' x' h1 h2 h3 =>
        obtain ⟨rfl, e2⟩ := List.append_inj' e rfl
        cases e2
        obtain ⟨i1, i2, i3⟩ := ih.mp h1
        refine ⟨i1, ⟨i2, by simp, fun a ha b hb z => ?_⟩, i3, h2⟩
        rw [List.mem_singleton.mp hb] at z
        exact h3 (z ▸ ha)
    · rintro ⟨i1, ⟨i2, _, i3⟩, i4, i5⟩
      exact .snoc (ih.mpr ⟨i1, i2, i4⟩) i5 fun m => i3 x m x (List.mem_singleton.mpr rfl) rfl
theorem lk_rev {G F : Grid} (h : ∀ x y, y ∈ row G x ↔ x ∈ row F y) : ∀ {t : List Nat}, Lk G t → Lk F t.reverse
  | [], _ => trivial
  | [_], _ => trivial
  | x :: y :: r, hh => by
    have ih := lk_rev h hh.2
    rw [List.reverse_cons]
    refine (lk_snoc (by simp)).mpr ⟨ih, ?_⟩
    have e : lst (y :: r).reverse = y := by unfold lst; rw [List.getLast?_reverse]; rfl
    rw [e]
    exact (h x y).mp hh.1
def every (G : Grid) : List (List Nat) := (List.range G.length).flatMap fun p => all G p
theorem every_mem {G : Grid} (ok : SiteOk G) (ha : Asc G) {t : List Nat} : t ∈ every G ↔ t ≠ [] ∧ t.Nodup ∧ Lk G t ∧ ∀ x ∈ t, x < G.length := by
  unfold every
  rw [List.mem_flatMap]
  constructor
  · rintro ⟨p, hp, m⟩
    rw [List.mem_range] at hp
    have h := (mem_all ok ha hp).mp m
    exact ⟨h.ne, h.nd, ((trp_iff _ rfl).mp h).2.2, h.lt ok hp⟩
  · rintro ⟨h1, h2, h3, h4⟩
    cases t with
    | nil => exact absurd rfl h1
    | cons p r =>
      have hp := h4 p List.mem_cons_self
      exact ⟨p, List.mem_range.mpr hp, (mem_all ok ha hp).mpr ((trp_iff _ rfl).mpr ⟨rfl, h2, h3⟩)⟩
theorem every_nd {G : Grid} (ok : SiteOk G) (ha : Asc G) : (every G).Nodup := by
  unfold every
  have : ∀ n ≤ G.length, ((List.range n).flatMap fun p => all G p).Nodup := fun n => by
    induction n with
    | zero => intro _; simp
    | succ n ih =>
      intro hn
      rw [List.range_succ, List.flatMap_append, List.flatMap_singleton, List.nodup_append]
      refine ⟨ih (by omega), all_nd G n, fun a hA b hB e => ?_⟩
      subst e
      obtain ⟨p, hp, m⟩ := List.mem_flatMap.mp hA
      rw [List.mem_range] at hp
      have h1 := ((mem_all ok ha (by omega)).mp m).head
      have h2 := ((mem_all ok ha (show n < G.length by omega)).mp hB).head
      rw [h1] at h2
      have := Option.some.inj h2
      omega
  exact this _ (Nat.le_refl _)
theorem every_len (G : Grid) : (every G).length = ((List.range G.length).map fun p => (all G p).length).sum := by
  unfold every
  rw [List.length_flatMap]
theorem nd_rev {t : List Nat} (h : t.Nodup) : t.reverse.Nodup := List.pairwise_reverse.mpr (h.imp Ne.symm)
theorem turned_len {G F : Grid} (ok : SiteOk G) (ha : Asc G) (okF : SiteOk F) (haF : Asc F) (hl : G.length = F.length) (h : ∀ x y, y ∈ row G x ↔ x ∈ row F y) : (every G).length = (every F).length := by
  have p : ((every G).map List.reverse).Perm (every F) := by
    refine (List.perm_ext_iff_of_nodup ?_ (every_nd okF haF)).mpr fun t => ?_
    · exact List.pairwise_map.mpr ((every_nd ok ha).imp fun ne e => ne (List.reverse_inj.mp e))
    · rw [List.mem_map, every_mem okF haF]
      constructor
      · rintro ⟨u, hu, rfl⟩
        obtain ⟨h1, h2, h3, h4⟩ := (every_mem ok ha).mp hu
        exact ⟨by simpa using h1, nd_rev h2, lk_rev h h3, fun x hx => by rw [← hl]; exact h4 x (List.mem_reverse.mp hx)⟩
      · rintro ⟨h1, h2, h3, h4⟩
        refine ⟨t.reverse, (every_mem ok ha).mpr ⟨by simpa using h1, nd_rev h2, lk_rev (fun x y => (h y x).symm) h3, fun x hx => by rw [hl]; exact h4 x (List.mem_reverse.mp hx)⟩, List.reverse_reverse t⟩
  have := p.length_eq
  rw [List.length_map] at this
  exact this
end TF
set_option Elab.async false
set_option linter.all false
set_option maxRecDepth 100000
set_option maxHeartbeats 4000000
/-! plain law: the loop numbers of pages do not depend on the order of the pages -/
namespace BC
/-- the product of two sequences -/
def cv : (Nat → Nat) → (Nat → Nat) → Nat → Nat
  | f, g, 0 => f 0 * g 0
  | f, g, t + 1 => f 0 * g (t + 1) + cv (fun i => f (i + 1)) g t
def one : Nat → Nat
  | 0 => 1
  | _ + 1 => 0
/-! ### walks by their last visit of a page -/
/-- from a page to another, never back at the first -/
def off (G : Grid) (S : List Nat) (a p : Nat) : Nat → Nat
  | 0 => 0
  | t + 1 => ((row G a).map fun u => fw G (S ++ [a]) p t u).sum
/-- the closed walks by steps -/
def cs (G : Grid) (S : List Nat) (a : Nat) : Nat → Nat := fun t => fw G S a t a
/-! ### the loop numbers -/
end BC
set_option Elab.async false
set_option linter.all false
set_option maxRecDepth 100000
set_option maxHeartbeats 4000000
/-! plain law: loop numbers of reversed sites, without links, with one page more, and the first ones -/
namespace BC
/-- the pages that link to a page -/
def bk (G : Grid) (p : Nat) : List Nat := (List.range G.length).filter fun w => decide (p ∈ row G w)
/-! ### the first numbers -/
/-! ### for the lists that the program finds -/
end BC
set_option Elab.async false
set_option linter.all false
set_option maxRecDepth 100000
set_option maxHeartbeats 4000000
/-! walks with a given trail, counted step by step (class Goal) -/
namespace BC
/-- one step later -/
def sh (f : Nat → Nat) : Nat → Nat
  | 0 => 0
  | n + 1 => f n
/-- walks from v that keep out of S and end with the trail x :: xs behind S -/
def tb (G : Grid) : List Nat → List Nat → Nat → Nat → Nat
  | _, [], _, _ => 0
  | S, x :: xs, v, n => cv (fun i => fw G S x i v) (match xs with
    | [] => one
    | y :: ys => sh (tb G (S ++ [x]) (y :: ys) y)) n
def rs (G : Grid) (S : List Nat) (x : Nat) : List Nat → Nat → Nat
  | [] => one
  | y :: ys => sh (tb G (S ++ [x]) (y :: ys) y)
/-- the trail after a visit -/
def cutN (p : List Nat) (y : Nat) : List Nat := if y ∈ p then p.take (p.idxOf y + 1) else p ++ [y]
end BC
set_option Elab.async false
set_option linter.all false
set_option maxRecDepth 100000
set_option maxHeartbeats 4000000
/-! numbers of walks with a given trail -/
namespace BC
/-- a walk on from the trail p -/
def Wk (G : Grid) : List Nat → List Nat → Prop
  | _, [] => True
  | p, w :: ws => w ∈ row G (p.getLast?.getD 0) ∧ Wk G (cutN p w) ws
/-- the choice that the rest falls to -/
def choose (f : Nat → Nat) : List Nat → Nat → Nat × Nat
  | [], r => (0, r)
  | a :: l, r => if r < f a then (a, r) else choose f l (r - f a)
end BC
set_option Elab.async false
set_option linter.all false
set_option maxRecDepth 100000
set_option maxHeartbeats 4000000
/-! bounds of the goal's tables; the row that is carried from table to table -/
namespace BC
/-- the row carried after i tables -/
def rest (G : Grid) (goal : List Nat) (i : Nat) : Nat → Nat := if i = 0 then one else sh (tb G (goal.take (goal.length - i)) (goal.drop (goal.length - i)) (goal.getD (goal.length - i) 0))
end BC
set_option Elab.async false
set_option linter.all false
set_option maxRecDepth 100000
set_option maxHeartbeats 4000000
/-! a memo: a dict by the texts of [trail, steps] -/
namespace BC
open PySem PySem.Spec PyProof.Rows L2 Evl TR
def dPL (p : List Nat) (l : Nat) : PyData := .list [.list ((nz p).map PyData.int), .int (l : Int)]
def key2 (p : List Nat) (l : Nat) : Key := Sum.inr (dPL p l).shown
theorem pl_shown (p : List Nat) (l : Nat) : (dPL p l).shown = (("[" : String) : Str) ++ (shInts (nz p) ++ ", " ++ ((toString (l : Int) : String) : Str)) ++ "]" := by
  unfold dPL shInts
  rw [PyData.shown_list, PyData.shownAll_cons, PyData.shownAll_cons, PyData.shownAll_nil, PyData.shown_int]
  rfl
theorem pl_codes (p : List Nat) (l : Nat) : (dPL p l).shown.cps.toList = (91 :: 91 :: (Str.join ", " ((nz p).map fun n => ((toString n : String) : Str))).cps.toList) ++ (93 :: 44 :: 32 :: ((((toString (l : Int) : String) : Str).cps.toList) ++ [93])) := by
  rw [pl_shown]
  unfold shInts
  rw [PyData.shown_list, PyData.shownAll_ints]
  simp only [cps_toList_append, signs_sep, signs_lbrack, signs_rbrack, List.cons_append, List.nil_append, List.append_assoc]
theorem join_free (p : List Nat) : ∀ c ∈ 91 :: 91 :: (Str.join ", " ((nz p).map fun n => ((toString n : String) : Str))).cps.toList, decide (c ≠ 93) = true := fun c hc => by
  rw [List.mem_cons, List.mem_cons] at hc
  rcases hc with rfl | rfl | hc
  · decide
  · decide
  · refine decide_eq_true fun e => ?_
    subst e
    rw [mem_join] at hc
    rcases hc with ⟨t, ht, hc⟩ | ⟨_, hc⟩
    · obtain ⟨n, _, rfl⟩ := List.mem_map.mp ht
      exact shown_int_free (k := 93) (by omega) n (by rw [PyData.shown_int]; exact hc)
    · rw [signs_sep] at hc
      exact absurd hc (by decide)
theorem pl_take (p : List Nat) (l : Nat) : (dPL p l).shown.cps.toList.takeWhile (fun c => decide (c ≠ 93)) = 91 :: 91 :: (Str.join ", " ((nz p).map fun n => ((toString n : String) : Str))).cps.toList := by
  rw [pl_codes, List.takeWhile_append_of_pos (join_free p)]
  rw [List.takeWhile_cons, if_neg (by decide), List.append_nil]
theorem pl_drop (p : List Nat) (l : Nat) : (dPL p l).shown.cps.toList.dropWhile (fun c => decide (c ≠ 93)) = 93 :: 44 :: 32 :: ((((toString (l : Int) : String) : Str).cps.toList) ++ [93]) := by
  rw [pl_codes, List.dropWhile_append_of_pos (join_free p)]
  rw [List.dropWhile_cons, if_neg (by decide)]
theorem step_one : ∀ a b : Fin 15, (((toString ((a.val : Nat) : Int) : String) : Str).cps.toList) = (((toString ((b.val : Nat) : Int) : String) : Str).cps.toList) → a = b := by decide +kernel
theorem key2_inj {p q : List Nat} {l m : Nat} (hp : ∀ x ∈ p, x < 10) (hq : ∀ x ∈ q, x < 10) (hl : l ≤ 14) (hm : m ≤ 14) (e : key2 p l = key2 q m) : p = q ∧ l = m := by
  have e := congrArg (fun s : Str => s.cps.toList) (Sum.inr.inj e)
  have dg : ∀ {p : List Nat}, (∀ x ∈ p, x < 10) → Dg (nz p) := fun h n hn => by
    obtain ⟨x, hx, rfl⟩ := List.mem_map.mp hn
    have := h x hx
    omega
  have e1 := congrArg (List.takeWhile (fun c => decide (c ≠ 93))) e
  have e2 := congrArg (List.dropWhile (fun c => decide (c ≠ 93))) e
  rw [pl_take, pl_take] at e1
  rw [pl_drop, pl_drop] at e2
  have e1 := congrArg digL (List.tail_eq_of_cons_eq (List.tail_eq_of_cons_eq e1))
  rw [digL_join _ (dg hp), digL_join _ (dg hq)] at e1
  have e2 := List.append_inj_left' (List.tail_eq_of_cons_eq (List.tail_eq_of_cons_eq (List.tail_eq_of_cons_eq e2))) rfl
  refine ⟨?_, ?_⟩
  · unfold nz at e1
    exact (List.map_inj_right (fun a b h => Int.ofNat.inj h)).mp e1
  · have := step_one ⟨l, by omega⟩ ⟨m, by omega⟩ e2
    exact congrArg Fin.val this
/-! ### how many keys there are -/
theorem nodup_le {α : Type} [DecidableEq α] : ∀ {l m : List α}, l.Nodup → (∀ x ∈ l, x ∈ m) → l.length ≤ m.length
  | [], _, _, _ => Nat.zero_le _
  | x :: l, m, hn, h => by
    obtain ⟨h1, h2⟩ := List.nodup_cons.mp hn
    have ih := nodup_le (m := m.erase x) h2 fun y hy => (List.mem_erase_of_ne (fun e => by subst e; exact h1 hy)).mpr (h y (List.mem_cons_of_mem _ hy))
    have hm := h x List.mem_cons_self
    rw [List.length_erase_of_mem hm] at ih
    have := List.length_pos_of_mem hm
    rw [List.length_cons]
    omega
/-- all lists of pages of so many -/
def lsts : Nat → List (List Nat)
  | 0 => [[]]
  | n + 1 => [] :: ((lsts n).map fun l => (List.range 5).map fun x => x :: l).flatten
theorem lsts_mem : ∀ (n : Nat) (p : List Nat), p.length ≤ n → (∀ x ∈ p, x < 5) → p ∈ lsts n
  | 0, [], _, _ => List.mem_cons_self
  | 0, x :: p, h, _ => by rw [List.length_cons] at h; omega
  | n + 1, [], _, _ => List.mem_cons_self
  | n + 1, x :: p, h, hx => by
    rw [List.length_cons] at h
    refine List.mem_cons_of_mem _ (List.mem_flatten.mpr ⟨_, List.mem_map.mpr ⟨p, lsts_mem n p (by omega) fun y hy => hx y (List.mem_cons_of_mem _ hy), rfl⟩, ?_⟩)
    exact List.mem_map.mpr ⟨x, List.mem_range.mpr (hx x List.mem_cons_self), rfl⟩
def keys2 : List Key := ((lsts 5).map fun p => (List.range 15).map fun l => key2 p l).flatten
theorem keys2_mem {p : List Nat} {l : Nat} (h1 : p.length ≤ 5) (h2 : ∀ x ∈ p, x < 5) (hl : l ≤ 14) : key2 p l ∈ keys2 :=
  List.mem_flatten.mpr ⟨_, List.mem_map.mpr ⟨p, lsts_mem 5 p h1 h2, rfl⟩, List.mem_map.mpr ⟨l, List.mem_range.mpr (by omega), rfl⟩⟩
theorem flat_len {α : Type} (k : Nat) : ∀ L : List (List α), (∀ x ∈ L, x.length = k) → L.flatten.length = k * L.length
  | [], _ => rfl
  | x :: L, h => by
    rw [List.flatten_cons, List.length_append, flat_len k L fun y hy => h y (List.mem_cons_of_mem _ hy), h x List.mem_cons_self, List.length_cons, Nat.mul_add, Nat.mul_one, Nat.add_comm]
theorem lsts_len : (lsts 5).length = 3906 := by decide +kernel
theorem keys2_len : keys2.length ≤ 60000 := by
  have e := flat_len 15 ((lsts 5).map fun p => (List.range 15).map fun l => key2 p l) fun x hx => by
    obtain ⟨l, _, rfl⟩ := List.mem_map.mp hx
    rw [List.length_map, List.length_range]
  unfold keys2
  rw [e, List.length_map, lsts_len]
  omega
theorem putK_keys {kvs : List (Key × V)} {k : Key} {v : V} : (putK kvs k v).map (·.1) = kvs.map (·.1) ∨ (k ∉ kvs.map (·.1) ∧ (putK kvs k v).map (·.1) = kvs.map (·.1) ++ [k]) := by
  unfold putK
  by_cases a : (kvs.any fun kv => decide (kv.1 = k)) = true
  · rw [if_pos a, List.map_map]
    refine .inl (List.map_congr_left fun p _ => ?_)
    show (if p.1 = k then (p.1, v) else p).1 = p.1
    split <;> rfl
  · rw [if_neg a, List.map_append]
    refine .inr ⟨fun m => a ?_, rfl⟩
    obtain ⟨p, hp, e⟩ := List.mem_map.mp m
    exact List.any_eq_true.mpr ⟨p, hp, decide_eq_true e⟩
/-- what the memo says is so -/
structure Memo (f : Nat → List Nat → Nat) (kvs : List (Key × V)) : Prop where
  nd : (kvs.map (·.1)).Nodup
  mem : ∀ k ∈ kvs.map (·.1), k ∈ keys2
  ok : ∀ (p : List Nat) (l : Nat) (v : V), (∀ x ∈ p, x < 5) → l ≤ 14 → valV kvs (key2 p l) = some v → v = .int (f l p : Nat)
theorem Memo.nil (f : Nat → List Nat → Nat) : Memo f [] := ⟨List.nodup_nil, fun k h => by simp at h, fun p l v _ _ h => by cases h⟩
theorem Memo.len {f : Nat → List Nat → Nat} {kvs : List (Key × V)} (h : Memo f kvs) : kvs.length ≤ 60000 := by
  have := nodup_le h.nd h.mem
  rw [List.length_map] at this
  exact Nat.le_trans this keys2_len
theorem Memo.put {f : Nat → List Nat → Nat} {kvs : List (Key × V)} (h : Memo f kvs) {p : List Nat} {l : Nat} (h1 : p.length ≤ 5) (h2 : ∀ x ∈ p, x < 5) (hl : l ≤ 14) : Memo f (putK kvs (key2 p l) (.int (f l p : Nat))) := by
  refine ⟨?_, fun k hk => ?_, fun q m v hq hm hv => ?_⟩
  · rcases putK_keys (kvs := kvs) (k := key2 p l) (v := .int (f l p : Nat)) with e | ⟨n, e⟩
    · rw [e]; exact h.nd
    · rw [e]
      refine List.nodup_append.mpr ⟨h.nd, by simp, fun a ha b hb => ?_⟩
      rw [List.mem_singleton] at hb
      rw [hb]
      exact fun z => n (z ▸ ha)
  · rcases putK_keys (kvs := kvs) (k := key2 p l) (v := .int (f l p : Nat)) with e | ⟨n, e⟩
    · rw [e] at hk; exact h.mem k hk
    · rw [e] at hk
      rcases List.mem_append.mp hk with z | z
      · exact h.mem k z
      · rw [List.mem_singleton.mp z]; exact keys2_mem h1 h2 hl
  · rw [valV_put] at hv
    by_cases c : key2 q m = key2 p l
    · rw [if_pos c] at hv
      obtain ⟨rfl, rfl⟩ := key2_inj (fun x hx => by have := hq x hx; omega) (fun x hx => by have := h2 x hx; omega) hm hl c
      exact (Option.some.inj hv).symm
    · rw [if_neg c] at hv
      exact h.ok q m v hq hm hv
end BC
set_option Elab.async false
set_option linter.all false
set_option maxRecDepth 100000
set_option maxHeartbeats 4000000
/-! a memo by numbers: used pages and the last one (k79) -/
namespace TF
open BC
theorem filt_sum {f : Nat → Nat} {P : Nat → Bool} : ∀ l : List Nat, ((l.filter P).map f).sum ≤ (l.map f).sum
  | [] => Nat.le_refl _
  | a :: l => by
    have ih := filt_sum (f := f) (P := P) l
    rw [List.filter_cons, List.map_cons, List.sum_cons]
    split
    · rw [List.map_cons, List.sum_cons]; omega
    · omega
theorem bits_lt {t : List Nat} (nd : t.Nodup) (h : ∀ x ∈ t, x < 12) : bits t < 4096 := by
  have p : ((List.range 12).filter fun x => decide (x ∈ t)).Perm t := by
    refine (List.perm_ext_iff_of_nodup (List.nodup_range.filter _) nd).mpr fun y => ?_
    rw [List.mem_filter, List.mem_range, decide_eq_true_eq]
    exact ⟨fun q => q.2, fun m => ⟨h y m, m⟩⟩
  have e : (((List.range 12).filter fun x => decide (x ∈ t)).map fun x => 2 ^ x).sum = bits t := (p.map fun x => 2 ^ x).sum_nat
  have a := filt_sum (f := fun x => 2 ^ x) (P := fun x => decide (x ∈ t)) (List.range 12)
  have b : ((List.range 12).map fun x => 2 ^ x).sum = 4095 := by decide
  omega
theorem ky_lt {G : Grid} (h12 : G.length ≤ 12) {t : List Nat} (h : TrOk G t) : ky t < 65536 := by
  have a := bits_lt h.nd fun x hx => by have := h.lt x hx; omega
  have b := h.lt _ (lst_mem h.ne)
  unfold ky
  omega
end TF
namespace BC
open PySem PySem.Spec PyProof.Rows L2 Evl TR
theorem lr_len {G : Grid} (h12 : G.length ≤ 12) {L : TF.KD} {T : List (List Nat)} (h : TF.Lr L T) (hT : ∀ t ∈ T, TF.TrOk G t) : L.length ≤ 65536 := by
  have a : ((L.map (·.1)).map fun k : Nat × Nat => k.1 * 16 + k.2).Nodup := by
    refine List.pairwise_map.mpr (h.nd.imp_of_mem ?_)
    intro x y hx hy ne e
    obtain ⟨u, hu, rfl⟩ := List.mem_map.mp hx
    obtain ⟨v, hv, rfl⟩ := List.mem_map.mp hy
    obtain ⟨t, ht, et⟩ := h.keys u hu
    obtain ⟨s, hs, es⟩ := h.keys v hv
    have t1 := (hT t ht).lt _ (TF.lst_mem (hT t ht).ne)
    have s1 := (hT s hs).lt _ (TF.lst_mem (hT s hs).ne)
    rw [← et, ← es] at e ne
    have e : TF.bits t * 16 + lst t = TF.bits s * 16 + lst s := e
    exact ne (by rw [show TF.bits t = TF.bits s by omega, show lst t = lst s by omega])
  have b := nodup_le (m := List.range 65536) a fun x hx => by
    obtain ⟨k, hk, rfl⟩ := List.mem_map.mp hx
    obtain ⟨u, hu, rfl⟩ := List.mem_map.mp hk
    obtain ⟨t, ht, et⟩ := h.keys u hu
    rw [← et, List.mem_range]
    exact TF.ky_lt h12 (hT t ht)
  rw [List.length_map, List.length_map, List.length_range] at b
  exact b
def keyW (t : List Nat) : Key := Sum.inl ((TF.ky t : Nat) : Int)
def keysW : List Key := (List.range 65536).map fun i : Nat => Sum.inl (i : Int)
/-- what the memo says is so -/
structure MemoW (G : Grid) (kvs : List (Key × V)) : Prop where
  nd : (kvs.map (·.1)).Nodup
  mem : ∀ k ∈ kvs.map (·.1), k ∈ keysW
  ok : ∀ (t : List Nat) (v : V), TF.TrOk G t → valV kvs (keyW t) = some v → v = .int (TF.big G t : Nat)
theorem MemoW.nil (G : Grid) : MemoW G [] := ⟨List.nodup_nil, fun k h => by simp at h, fun t v _ h => by cases h⟩
theorem MemoW.len {G : Grid} {kvs : List (Key × V)} (h : MemoW G kvs) : kvs.length ≤ 65536 := by
  have := nodup_le h.nd h.mem
  rw [List.length_map] at this
  unfold keysW at this
  rw [List.length_map, List.length_range] at this
  exact this
theorem MemoW.put {G : Grid} (h12 : G.length ≤ 12) {kvs : List (Key × V)} (h : MemoW G kvs) {t : List Nat} (ht : TF.TrOk G t) : MemoW G (putK kvs (keyW t) (.int (TF.big G t : Nat))) := by
  refine ⟨?_, fun k hk => ?_, fun q v hq hv => ?_⟩
  · rcases putK_keys (kvs := kvs) (k := keyW t) (v := .int (TF.big G t : Nat)) with e | ⟨n, e⟩
    · rw [e]; exact h.nd
    · rw [e]
      refine List.nodup_append.mpr ⟨h.nd, by simp, fun a ha b hb => ?_⟩
      rw [List.mem_singleton] at hb
      rw [hb]
      exact fun z => n (z ▸ ha)
  · rcases putK_keys (kvs := kvs) (k := keyW t) (v := .int (TF.big G t : Nat)) with e | ⟨n, e⟩
    · rw [e] at hk; exact h.mem k hk
    · rw [e] at hk
      rcases List.mem_append.mp hk with z | z
      · exact h.mem k z
      · rw [List.mem_singleton.mp z]
        exact List.mem_map.mpr ⟨TF.ky t, List.mem_range.mpr (TF.ky_lt h12 ht), rfl⟩
  · rw [valV_put] at hv
    by_cases c : keyW q = keyW t
    · rw [if_pos c] at hv
      have e : TF.ky q = TF.ky t := Int.ofNat.inj (Sum.inl.inj c)
      rw [TF.big_key h12 hq ht e]
      exact (Option.some.inj hv).symm
    · rw [if_neg c] at hv
      exact h.ok q v hq hv
end BC
set_option Elab.async false
set_option linter.all false
set_option maxRecDepth 100000
set_option maxHeartbeats 4000000
/-! the first six pages of a site; a site turned round (k79, plain) -/
namespace TF
open BC
def cutG (G : Grid) : Grid := (G.take 6).map fun r => r.filter fun y => decide (y < (G.take 6).length)
def turnG (G : Grid) : Grid := (List.range G.length).map fun x => (List.range G.length).filter fun y => decide (x ∈ row G y)
theorem cutG_len (G : Grid) : (cutG G).length = (G.take 6).length := by unfold cutG; rw [List.length_map]
theorem cutG_at {G : Grid} {i : Nat} {r : List Nat} (h : (G.take 6)[i]? = some r) : (cutG G)[i]? = some (r.filter fun y => decide (y < (G.take 6).length)) := by
  unfold cutG
  rw [List.getElem?_map, h]
  rfl
theorem cutG_ok {G : Grid} (ok : SiteOk G) : SiteOk (cutG G) := by
  have n1 := ok.n1
  have n2 := ok.n2
  have at_ : ∀ (i : Nat) (r : List Nat), (cutG G)[i]? = some r → ∃ r0, G[i]? = some r0 ∧ r = r0.filter fun y => decide (y < (G.take 6).length) := fun i r h => by
    have hi := (List.getElem?_eq_some_iff.mp h).1
    rw [cutG_len] at hi
    obtain ⟨r0, h0⟩ : ∃ r0, (G.take 6)[i]? = some r0 := ⟨_, List.getElem?_eq_getElem hi⟩
    rw [cutG_at h0] at h
    rw [List.length_take] at hi
    rw [List.getElem?_take_of_lt (by omega)] at h0
    exact ⟨r0, h0, (Option.some.inj h).symm⟩
  refine ⟨by rw [cutG_len, List.length_take]; omega, by rw [cutG_len, List.length_take]; omega, fun i r h => ?_, fun i r h x hx => ?_, fun i r h m => ?_⟩
  · obtain ⟨r0, h0, rfl⟩ := at_ i r h
    exact (ok.asc i r0 h0).filter _
  · obtain ⟨r0, h0, rfl⟩ := at_ i r h
    rw [cutG_len]
    exact of_decide_eq_true (List.mem_filter.mp hx).2
  · obtain ⟨r0, h0, rfl⟩ := at_ i r h
    exact ok.no i r0 h0 (List.mem_filter.mp m).1
theorem turnG_len (G : Grid) : (turnG G).length = G.length := by unfold turnG; rw [List.length_map, List.length_range]
theorem turnG_at {G : Grid} {x : Nat} (h : x < G.length) : (turnG G)[x]? = some ((List.range G.length).filter fun y => decide (x ∈ row G y)) := by
  unfold turnG
  rw [List.getElem?_map, List.getElem?_range h]
  rfl
theorem turnG_ok {G : Grid} (ok : SiteOk G) : SiteOk (turnG G) := by
  have at_ : ∀ (i : Nat) (r : List Nat), (turnG G)[i]? = some r → i < G.length ∧ r = (List.range G.length).filter fun y => decide (i ∈ row G y) := fun i r h => by
    have hi := (List.getElem?_eq_some_iff.mp h).1
    rw [turnG_len] at hi
    rw [turnG_at hi] at h
    exact ⟨hi, (Option.some.inj h).symm⟩
  refine ⟨by rw [turnG_len]; exact ok.n1, by rw [turnG_len]; exact ok.n2, fun i r h => ?_, fun i r h x hx => ?_, fun i r h m => ?_⟩
  · rw [(at_ i r h).2]
    exact List.pairwise_lt_range.filter _
  · rw [(at_ i r h).2] at hx
    rw [turnG_len]
    exact List.mem_range.mp (List.mem_filter.mp hx).1
  · obtain ⟨hi, rfl⟩ := at_ i r h
    have := of_decide_eq_true (List.mem_filter.mp m).2
    exact ok.no i _ (at_row hi) this
theorem row_lt {G : Grid} {x y : Nat} (h : y ∈ row G x) : x < G.length := by
  by_cases c : x < G.length
  · exact c
  · exfalso
    unfold row at h
    rw [List.getD_eq_getElem?_getD, List.getElem?_eq_none (by omega)] at h
    cases h
theorem turnG_iff {G : Grid} (ok : SiteOk G) (x y : Nat) : y ∈ row G x ↔ x ∈ row (turnG G) y := by
  constructor
  · intro h
    have hy := ok.rlt h
    rw [row_at (turnG_at hy)]
    exact List.mem_filter.mpr ⟨List.mem_range.mpr (row_lt h), decide_eq_true h⟩
  · intro h
    have hy := row_lt h
    rw [turnG_len] at hy
    rw [row_at (turnG_at hy)] at h
    exact of_decide_eq_true (List.mem_filter.mp h).2
theorem turned_sum {G : Grid} (ok : SiteOk G) (ha : ∀ F : Grid, SiteOk F → Asc F) : ((List.range G.length).map fun p => (all G p).length).sum = ((List.range G.length).map fun p => (all (turnG G) p).length).sum := by
  have a := turned_len ok (ha G ok) (turnG_ok ok) (ha _ (turnG_ok ok)) (turnG_len G).symm (turnG_iff ok)
  rw [every_len, every_len, turnG_len] at a
  exact a
end TF
set_option Elab.async false
set_option linter.all false
set_option maxRecDepth 100000
set_option maxHeartbeats 4000000
/-! repr of anything that is shown: numbers, texts, None, lists, tuples, empty dicts, at any depth -/
namespace BC
open PySem PySem.Spec PyProof.Rows L2 Evl
mutual
inductive De (K : PySem.W.Frag) (H : Hp) : V → PyData → Prop
  | non : De K H .non .none
  | bl (b : Bool) : De K H (.bl b) (.bool b)
  | int (i : Int) : De K H (.int i) (.int i)
  | str (x : Str) : De K H (.str x) (.str x)
  | lst {a : Addr} {xs : List V} {ds : List PyData} : SqL K H a xs → DeAll K H xs ds → De K H (.ref a) (.list ds)
  | tup {a : Addr} {xs : List V} {ds : List PyData} : SqT K H a xs → DeAll K H xs ds → De K H (.ref a) (.tuple ds)
  | dic {a : Addr} : H a = some (.dK []) → De K H (.ref a) (.dict [])
inductive DeAll (K : PySem.W.Frag) (H : Hp) : List V → List PyData → Prop
  | nil : DeAll K H [] []
  | cons {v : V} {vs : List V} {d : PyData} {ds : List PyData} : De K H v d → DeAll K H vs ds → DeAll K H (v :: vs) (d :: ds)
end
section
variable {X : Cx} {pins : List (Addr × Obj)} {σ : L2.St} {H : Hp} {s : Shared}
/-- what is known of a value that is shown -/
def Shows (X : Cx) (s : Shared) (u : Value) (d : PyData) : Prop :=
  (∃ as, Reads s.heap u d as) ∧ ∃ bs, ReadAtMost s.heap d.depth bs ∧ ReprK X.prog X.w bs s.heap d.depth u d.shown
def ShowsAll (X : Cx) (s : Shared) (us : List Value) (ds : List PyData) : Prop :=
  (∃ as, ReadsAll s.heap us ds as) ∧ ∃ bs, ReadAtMost s.heap (PyData.depthAll ds) bs ∧ ReprAllK X.prog X.w bs s.heap (PyData.depthAll ds) us (PyData.shownAll ds)
theorem empty_dict (I : Inv X pins σ H s) {a : Addr} (e : H a = some (.dK [])) : (a == sysModules) = false ∧ ∃ o n, s.heap.get? a = some o ∧ o.cls = .type "dict" ∧ o.data = .dict #[] n := by
  obtain ⟨_, hs, vs, kv, o, es, ep, ho, hx, hd, _, hm, _⟩ := dk_of I.hok e
  cases kv
  have he : es = #[] := by
    obtain ⟨l⟩ := es
    cases l with
    | nil => rfl
    | cons y l => cases hm
  subst he
  exact ⟨hs, o, ep, ho, hx.1, hd⟩
mutual
theorem De.shows (I : Inv X pins σ H s) : ∀ (d : PyData) (v : V) (u : Value), De X.K H v d → RelV v u → d.showable = true → d.shown.length ≤ sizeLine → Shows X s u d
  | .none, _, _, h, r, _, _ => by
    cases h; cases r
    exact ⟨⟨_, .none⟩, [], (fun _ m => nomatch m), by rw [show PyData.shown .none = ("None" : Str) by simp only [PyData.shown]]; exact .of_is ReprIs.none _ _ _⟩
  | .bool b, _, _, h, r, _, _ => by
    cases h; cases r
    exact ⟨⟨_, .bool b⟩, [], (fun _ m => nomatch m), by simp only [PyData.shown]; exact .of_is (ReprIs.bool b) _ _ _⟩
  | .int i, _, _, h, r, hs, _ => by
    cases h
    obtain ⟨t, rfl⟩ := r
    have h1 : i.natAbs.log2 < 1920 := by simpa [PyData.showable] using hs
    exact ⟨⟨_, .int i t⟩, [], (fun _ m => nomatch m), by simp only [PyData.shown]; exact .of_is (ReprIs.int t h1) _ _ _⟩
  | .str x, _, _, h, r, _, hz => by
    cases h
    obtain ⟨t, rfl⟩ := r
    simp only [PyData.shown] at hz
    exact ⟨⟨_, .str x t⟩, [], (fun _ m => nomatch m), by simp only [PyData.shown]; exact .of_is (ReprIs.str x t hz) _ _ _⟩
  | .list ds, _, _, h, r, hs, hz => by
    cases h with
    | lst hl ha =>
      cases r
      obtain ⟨its, rv, ⟨o, n, ho, hc, _, hd⟩, _⟩ := I.list hl
      simp only [PyData.shown] at hz
      simp only [PyData.showable] at hs
      obtain ⟨⟨as, hr⟩, bs, hb, hk⟩ := DeAll.shows I ds _ its ha rv hs fun t ht => Nat.le_trans (listText_mem_le ht) hz
      have r1 : Reads s.heap _ (.list ds) _ := .list ho hc hd hr
      have na := not_mem_of_deeper r1 (show PyData.depthAll ds < PyData.depth (.list ds) by simp only [PyData.depth]; omega) hb
      refine ⟨⟨_, r1⟩, _ :: bs, ReadAtMost.cons r1 (by simp only [PyData.depth]; omega) hb, ?_⟩
      simp only [PyData.depth, PyData.shown]
      cases its with
      | nil =>
        cases hr
        simp only [PyData.shownAll, listText_nil]
        exact ReprK.listEmpty ho hc hd
      | cons y l => exact ReprK.list ho hc hd na (by simpa using hk.length_eq) (fun i y e => hk.item i y (by simpa using e))
  | .tuple ds, _, _, h, r, hs, hz => by
    cases h with
    | tup hl ha =>
      cases r
      obtain ⟨its, rv, ⟨o, ho, hc, n, hd⟩, _⟩ := I.tuple hl
      simp only [PyData.shown] at hz
      simp only [PyData.showable] at hs
      obtain ⟨⟨as, hr⟩, bs, hb, hk⟩ := DeAll.shows I ds _ its ha rv hs fun t ht => Nat.le_trans (tupleText_mem_le ht) hz
      have r1 : Reads s.heap _ (.tuple ds) _ := .tuple ho hc hd hr
      have na := not_mem_of_deeper r1 (show PyData.depthAll ds < PyData.depth (.tuple ds) by simp only [PyData.depth]; omega) hb
      refine ⟨⟨_, r1⟩, _ :: bs, ReadAtMost.cons r1 (by simp only [PyData.depth]; omega) hb, ?_⟩
      simp only [PyData.depth, PyData.shown]
      exact ReprK.tuple ho hc hd na hk
  | .dict kvs, _, _, h, r, hs, hz => by
    cases h with
    | dic e =>
      cases r
      obtain ⟨hsys, o, n, ho, hc, hd⟩ := empty_dict I e
      have r1 : Reads s.heap _ (.dict []) _ := .dict (kvs := []) ho hc hd .nil .nil
      refine ⟨⟨_, r1⟩, [_], ReadAtMost.cons r1 (Nat.zero_le _) (fun _ m => nomatch m), ?_⟩
      simp only [PyData.depth, PyData.shown, PyData.shownKv, PyData.depthKv]
      exact ReprK.dict ho hc hd hsys List.not_mem_nil .nil
theorem DeAll.shows (I : Inv X pins σ H s) : ∀ (ds : List PyData) (vs : List V) (us : List Value), DeAll X.K H vs ds → Vals vs us → PyData.showableAll ds = true → (∀ t ∈ PyData.shownAll ds, t.length ≤ sizeLine) → ShowsAll X s us ds
  | [], _, _, h, r, _, _ => by
    cases h; cases r
    exact ⟨⟨_, .nil⟩, [], (fun _ m => nomatch m), by simp only [PyData.shownAll]; exact .nil⟩
  | d :: ds, _, _, h, r, hs, hz => by
    cases h with
    | cons h1 h2 =>
      cases r with
      | cons r1 r2 =>
        have hs2 : d.showable = true ∧ PyData.showableAll ds = true := by simpa [PyData.showableAll] using hs
        obtain ⟨⟨as, q1⟩, b1, c1, k1⟩ := De.shows I d _ _ h1 r1 hs2.1 (hz _ (by simp only [PyData.shownAll]; exact List.mem_cons_self))
        obtain ⟨⟨as2, q2⟩, b2, c2, k2⟩ := DeAll.shows I ds _ _ h2 r2 hs2.2 (fun t ht => hz t (by simp only [PyData.shownAll]; exact List.mem_cons_of_mem _ ht))
        refine ⟨⟨_, .cons q1 q2⟩, b1 ++ b2, ReadAtMost.append (c1.mono ?_) (c2.mono ?_), ?_⟩
        · simp only [PyData.depthAll]; omega
        · simp only [PyData.depthAll]; omega
        · simp only [PyData.depthAll, PyData.shownAll]
          exact .cons ((k1.more fun b m => List.mem_append_left _ m).level_le (by omega)) (k2.more_le (fun b m => List.mem_append_right _ m) (by omega))
end
def rReprA (K : PySem.W.Frag) : List V → Hp → VK → Prop := fun xs H Q => ∃ v d, xs = [v] ∧ De K H v d ∧ d.showable = true ∧ d.depth ≤ 60 ∧ d.shown.length ≤ sizeLine ∧ Q (.str d.shown) H
theorem k_reprA {K : PySem.W.Frag} (hK : X.K = K) (g : G0 X.A) (hu : X.A.units + 64 < cLine) : CallR X (.builtin "repr") (rReprA K) := by
  subst hK
  intro pins s σ H xs us Q I r h
  obtain ⟨v, d, rfl, hd, h1, h2, h4, q⟩ := h
  obtain ⟨u, rfl, ru⟩ := vals1 r
  have fin : ∀ (h' : Heap) (t tk : Nat), (∀ b o, s.heap.get? b = some o → h'.get? b = some o) → EP X pins σ Q (.str d.shown t) { s with heap := h', toks := tk } := fun h' t tk hk => ⟨.str _, H, I.kept hk, ⟨_, rfl⟩, q⟩
  cases hd with
  | non =>
    cases ru
    simp only [PyData.shown] at fin
    exact P.repr_of_none (fin s.heap _ _ fun _ _ e => e)
  | bl b =>
    cases ru
    simp only [PyData.shown] at fin
    exact P.repr_of_bool (fin s.heap _ _ fun _ _ e => e)
  | int i =>
    obtain ⟨t, rfl⟩ := ru
    simp only [PyData.shown] at fin
    exact P.repr_of_int (by simpa [PyData.showable] using h1) (fin s.heap _ _ fun _ _ e => e)
  | str x =>
    obtain ⟨t, rfl⟩ := ru
    simp only [PyData.shown] at fin h4
    exact P.repr_of_str (fin s.heap _ _ fun _ _ e => e) h4
  | @lst a ys ds hl ha =>
    cases ru
    obtain ⟨its, rv, ⟨o, n, ho, hc, _, hd⟩, _⟩ := I.list hl
    simp only [PyData.shown] at h4 fin
    simp only [PyData.showable] at h1
    simp only [PyData.depth] at h2
    obtain ⟨⟨as, hr⟩, bs, hb, hk⟩ := DeAll.shows I ds _ its ha rv h1 fun t ht => Nat.le_trans (listText_mem_le ht) h4
    have r1 : Reads s.heap _ (.list ds) _ := .list ho hc hd hr
    have na := not_mem_of_deeper r1 (show PyData.depthAll ds < PyData.depth (.list ds) by simp only [PyData.depth]; omega) hb
    refine call_repr_slot (by omega) ⟨o, ho, hc⟩ PySem.F.slot_list_repr.toG ?_
    cases its with
    | nil =>
      cases hr
      simp only [PyData.shownAll, listText_nil] at fin
      exact call_list_repr_empty ⟨o, ho, hc⟩ ho hd ⟨_, _, rfl, fin s.heap _ _ fun _ _ e => e⟩
    | cons y l => exact call_list_reprK ho hc hd na (by simpa using hk.length_eq) (fun i y e => hk.item i y (by simpa using e)) g (fun b _ => Clear.nil b) (by show X.A.units + 1 + _ < cLine; omega) (fun _ _ e => e) (fun h' u tk k => ⟨_, _, rfl, fin h' u tk k⟩) h4
  | @tup a ys ds hl ha =>
    cases ru
    obtain ⟨its, rv, ⟨o, ho, hc, n, hd⟩, _⟩ := I.tuple hl
    simp only [PyData.shown] at h4 fin
    simp only [PyData.showable] at h1
    simp only [PyData.depth] at h2
    obtain ⟨⟨as, hr⟩, bs, hb, hk⟩ := DeAll.shows I ds _ its ha rv h1 fun t ht => Nat.le_trans (tupleText_mem_le ht) h4
    have r1 : Reads s.heap _ (.tuple ds) _ := .tuple ho hc hd hr
    have na := not_mem_of_deeper r1 (show PyData.depthAll ds < PyData.depth (.tuple ds) by simp only [PyData.depth]; omega) hb
    refine call_repr_slot (by omega) ⟨o, ho, hc⟩ PySem.F.slot_tuple_repr ?_
    exact call_tuple_reprK ho hc hd na hk g (fun b _ => Clear.nil b) (by show X.A.units + 1 + _ < cLine; omega) (fun _ _ e => e) (fun h' u tk k => ⟨_, _, rfl, fin h' u tk k⟩) h4
  | dic e =>
    cases ru
    obtain ⟨hsys, o, n, ho, hc, hd⟩ := empty_dict I e
    simp only [PyData.shown, PyData.shownKv] at h4 fin
    refine call_repr_slot (by omega) ⟨o, ho, hc⟩ PySem.F.slot_dict_repr ?_
    exact call_dict_reprK (as := []) (d := 0) ho hc hd hsys List.not_mem_nil .nil g (fun b _ => Clear.nil b) (by show X.A.units + 1 + _ < cLine; omega) (fun _ _ e => e) (fun h' u tk k => ⟨_, _, rfl, fin h' u tk k⟩) h4
end
/-! ### what is shown stays so, its type, its size -/
section
variable {K : PySem.W.Frag} {H H' : Hp} {Q : VK}
mutual
theorem De.ex (e : Ex H H') : ∀ (d : PyData) (v : V), De K H v d → De K H' v d
  | .none, _, h => by cases h; exact .non
  | .bool _, _, h => by cases h; exact .bl _
  | .int _, _, h => by cases h; exact .int _
  | .str _, _, h => by cases h; exact .str _
  | .dict _, _, h => by
    cases h with
    | dic h1 => exact .dic (e _ _ h1)
  | .list ds, _, h => by
    cases h with
    | lst h1 h2 => exact .lst (ex_l e h1) (DeAll.ex e ds _ h2)
  | .tuple ds, _, h => by
    cases h with
    | tup h1 h2 => exact .tup (ex_t e h1) (DeAll.ex e ds _ h2)
theorem DeAll.ex (e : Ex H H') : ∀ (ds : List PyData) (vs : List V), DeAll K H vs ds → DeAll K H' vs ds
  | [], _, h => by cases h; exact .nil
  | d :: ds, _, h => by
    cases h with
    | cons h1 h2 => exact .cons (De.ex e d _ h1) (DeAll.ex e ds _ h2)
end
theorem De.ty {v : V} {d : PyData} (h : De K H v d) : TyX K H v (.type (tyn d)) := by
  cases h with
  | non => exact .base .non
  | bl b => exact .base (.bl b)
  | int i => exact .base (.int i)
  | str x => exact .base (.str x)
  | lst h _ => exact tyx_l h
  | tup h _ => exact tyx_t h
  | dic h => exact .base (.dK h)
theorem DeAll.len {vs : List V} {ds : List PyData} (h : DeAll K H vs ds) : vs.length = ds.length := by
  induction ds generalizing vs with
  | nil => cases h; rfl
  | cons d ds ih =>
    cases h with
    | cons _ h2 => simp [ih h2]
theorem DeAll.at {vs : List V} {ds : List PyData} (h : DeAll K H vs ds) {i : Nat} {v : V} (hv : vs[i]? = some v) : ∃ d, ds[i]? = some d ∧ De K H v d := by
  induction ds generalizing vs i with
  | nil => cases h; simp at hv
  | cons d ds ih =>
    cases h with
    | cons h1 h2 =>
      cases i with
      | zero => cases hv; exact ⟨d, rfl, h1⟩
      | succ i => exact ih h2 (by simpa using hv)
/-- shown in few signs -/
structure Gd (n W : Nat) (d : PyData) : Prop where
  s : d.showable = true
  l : d.leavesShort 40 = true
  dp : d.depth ≤ n
  w : d.weight ≤ W
theorem Gd.mono {n W n2 W2 : Nat} {d : PyData} (h : Gd n W d) (a : n ≤ n2) (b : W ≤ W2) : Gd n2 W2 d := ⟨h.s, h.l, Nat.le_trans h.dp a, Nat.le_trans h.w b⟩
theorem Gd.non : Gd 0 0 .none := ⟨rfl, rfl, Nat.le_refl _, Nat.le_refl _⟩
theorem Gd.bl (b : Bool) : Gd 0 0 (.bool b) := ⟨rfl, rfl, Nat.le_refl _, Nat.le_refl _⟩
theorem Gd.dic : Gd 1 0 (.dict []) := ⟨by simp [PyData.showable, PyData.showableKv], by simp [PyData.leavesShort, PyData.leavesShortKv], by simp [PyData.depth, PyData.depthKv], by simp [PyData.weight, PyData.weightKv]⟩
theorem Gd.int {i : Int} (h : i.natAbs < 10 ^ 38) : Gd 0 130 (.int i) := by
  have h2 : i.natAbs < 2 ^ 130 := Nat.lt_trans h (by decide +kernel)
  have hl : i.natAbs.log2 < 130 := log2_small (by decide) h2
  refine ⟨?_, ?_, Nat.le_refl _, ?_⟩
  · show decide (i.natAbs.log2 < 1920) = true
    exact decide_eq_true (by omega)
  · show decide ((PyData.shown (.int i)).length ≤ 40) = true
    refine decide_eq_true ?_
    have e := int_text_length_le10 (k := 38) (by decide) h
    simp only [PyData.shown]
    rw [show ((toString i : String) : Str).length = (toString i).length from PySem.ofString_length _]
    omega
  · simp only [PyData.weight]
    split
    · omega
    · omega
theorem Gd.str {x : Str} (h : (PyData.str x).leavesShort 40 = true) : Gd 0 x.cps.size (.str x) := ⟨rfl, h, Nat.le_refl _, by simp only [PyData.weight]; exact Nat.le_refl _⟩
theorem gd_all {ds : List PyData} {n W : Nat} (h : ∀ d ∈ ds, Gd n W d) : PyData.showableAll ds = true ∧ PyData.leavesShortAll 40 ds = true ∧ PyData.depthAll ds ≤ n ∧ PyData.weightAll ds ≤ (W + 1) * ds.length := by
  induction ds with
  | nil => exact ⟨rfl, rfl, Nat.zero_le _, Nat.zero_le _⟩
  | cons d ds ih =>
    have a := h d List.mem_cons_self
    obtain ⟨b1, b2, b3, b4⟩ := ih fun e m => h e (List.mem_cons_of_mem _ m)
    have := a.dp
    have := a.w
    simp only [PyData.showableAll, PyData.leavesShortAll, PyData.depthAll, PyData.weightAll, List.length_cons, Nat.mul_add, a.s, a.l, b1, b2, Bool.and_self]
    exact ⟨trivial, trivial, by omega, by omega⟩
theorem Gd.list {ds : List PyData} {n W : Nat} (h : ∀ d ∈ ds, Gd n W d) : Gd (n + 1) ((W + 1) * ds.length) (.list ds) := by
  obtain ⟨b1, b2, b3, b4⟩ := gd_all h
  exact ⟨by simp only [PyData.showable]; exact b1, by simp only [PyData.leavesShort]; exact b2, by simp only [PyData.depth]; omega, by simp only [PyData.weight]; exact b4⟩
theorem Gd.tuple {ds : List PyData} {n W : Nat} (h : ∀ d ∈ ds, Gd n W d) : Gd (n + 1) ((W + 1) * ds.length) (.tuple ds) := by
  obtain ⟨b1, b2, b3, b4⟩ := gd_all h
  exact ⟨by simp only [PyData.showable]; exact b1, by simp only [PyData.leavesShort]; exact b2, by simp only [PyData.depth]; omega, by simp only [PyData.weight]; exact b4⟩
theorem Gd.fits {n W : Nat} {d : PyData} (h : Gd n W d) (hW : W ≤ 370000) : d.shown.length ≤ sizeLine := by
  have a := PyData.shown_le 40 (by decide) d h.l
  have b := h.w
  rw [sizeLine_eq]
  omega
theorem reprA {v : V} {d : PyData} {n W : Nat} (h : De K H v d) (g : Gd n W d) (hn : n ≤ 60) (hW : W ≤ 370000) (q : Q (.str d.shown) H) : rReprA K [v] H Q :=
  ⟨v, d, rfl, h, g.s, Nat.le_trans g.dp hn, g.fits hW, q⟩
end
/-! ### values that are shown in few signs; one address hidden -/
def Sv (K : PySem.W.Frag) (H : Hp) (n W : Nat) (v : V) : Prop := ∃ d, De K H v d ∧ Gd n W d
section
variable {K : PySem.W.Frag} {H H' : Hp} {Q : VK} {n W : Nat} {v : V}
theorem Sv.ex (h : Sv K H n W v) (e : Ex H H') : Sv K H' n W v := by
  obtain ⟨d, a, g⟩ := h
  exact ⟨d, De.ex e d v a, g⟩
theorem Sv.mono {n2 W2 : Nat} (h : Sv K H n W v) (a : n ≤ n2) (b : W ≤ W2) : Sv K H n2 W2 v := by
  obtain ⟨d, x, g⟩ := h
  exact ⟨d, x, g.mono a b⟩
theorem Sv.non : Sv K H n W .non := ⟨_, .non, Gd.non.mono (Nat.zero_le _) (Nat.zero_le _)⟩
theorem Sv.bl (b : Bool) : Sv K H n W (.bl b) := ⟨_, .bl b, (Gd.bl b).mono (Nat.zero_le _) (Nat.zero_le _)⟩
theorem Sv.int {i : Int} (h : i.natAbs < 10 ^ 38) (hW : 130 ≤ W) : Sv K H n W (.int i) := ⟨_, .int i, (Gd.int h).mono (Nat.zero_le _) hW⟩
theorem Sv.str {x : Str} (h : (PyData.str x).leavesShort 40 = true) (hW : x.cps.size ≤ W) : Sv K H n W (.str x) := ⟨_, .str x, (Gd.str h).mono (Nat.zero_le _) hW⟩
theorem Sv.dic {a : Addr} (h : H a = some (.dK [])) (hn : 1 ≤ n) : Sv K H n W (.ref a) := ⟨_, .dic h, Gd.dic.mono hn (Nat.zero_le _)⟩
theorem sv_all {xs : List V} (h : ∀ x ∈ xs, Sv K H n W x) : ∃ ds, DeAll K H xs ds ∧ (∀ d ∈ ds, Gd n W d) ∧ ds.length = xs.length := by
  induction xs with
  | nil => exact ⟨[], .nil, (fun _ m => nomatch m), rfl⟩
  | cons x xs ih =>
    obtain ⟨d, a, g⟩ := h x List.mem_cons_self
    obtain ⟨ds, b, c, l⟩ := ih fun y m => h y (List.mem_cons_of_mem _ m)
    refine ⟨d :: ds, .cons a b, fun e m => ?_, by simp [l]⟩
    rcases List.mem_cons.mp m with rfl | m
    · exact g
    · exact c e m
theorem Sv.lst {a : Addr} {xs : List V} {W2 n2 : Nat} (h : SqL K H a xs) (hx : ∀ x ∈ xs, Sv K H n W x) (hn : n + 1 ≤ n2) (hW : (W + 1) * xs.length ≤ W2) : Sv K H n2 W2 (.ref a) := by
  obtain ⟨ds, b, c, l⟩ := sv_all hx
  exact ⟨.list ds, .lst h b, (Gd.list c).mono hn (by rw [l]; exact hW)⟩
theorem Sv.tup {a : Addr} {xs : List V} {W2 n2 : Nat} (h : SqT K H a xs) (hx : ∀ x ∈ xs, Sv K H n W x) (hn : n + 1 ≤ n2) (hW : (W + 1) * xs.length ≤ W2) : Sv K H n2 W2 (.ref a) := by
  obtain ⟨ds, b, c, l⟩ := sv_all hx
  exact ⟨.tuple ds, .tup h b, (Gd.tuple c).mono hn (by rw [l]; exact hW)⟩
end
/-! ### new things with the heap left closed -/
end BC
set_option Elab.async false
set_option linter.all false
set_option maxRecDepth 100000
set_option maxHeartbeats 4000000
namespace LW
open PySem PySem.Spec PyProof.Rows L2 BC Evl TR
def topS (i : Nat) : Stmt := PySem.Challenge.pw_breadcrumbs_k79_trails_of_large_sites.main.body.getD i (.Pass ⟨0, 0, 0, 0⟩)
abbrev s_is_integer : Stmt := topS 6
theorem sc_is_integer : FnScope ["value", "least", "most"] ["value", "least", "most"] (defScope s_is_integer) := ⟨rfl, rfl, rfl, by decide +kernel, rfl, by decide +kernel, by decide +kernel⟩
abbrev s_is_row : Stmt := topS 7
theorem sc_is_row : FnScope ["value", "page", "many", "other"] ["value", "page", "many"] (defScope s_is_row) := ⟨rfl, rfl, rfl, by decide +kernel, rfl, by decide +kernel, by decide +kernel⟩
abbrev s_is_site : Stmt := topS 8
theorem sc_is_site : FnScope ["value", "page", "row"] ["value"] (defScope s_is_site) := ⟨rfl, rfl, rfl, by decide +kernel, rfl, by decide +kernel, by decide +kernel⟩
abbrev s_check_site : Stmt := topS 9
theorem sc_check_site : FnScope ["site"] ["site"] (defScope s_check_site) := ⟨rfl, rfl, rfl, by decide +kernel, rfl, by decide +kernel, by decide +kernel⟩
abbrev s_check_page : Stmt := topS 10
theorem sc_check_page : FnScope ["site", "page"] ["site", "page"] (defScope s_check_page) := ⟨rfl, rfl, rfl, by decide +kernel, rfl, by decide +kernel, by decide +kernel⟩
abbrev s_has_bit : Stmt := topS 13
theorem sc_has_bit : FnScope ["bits", "page"] ["bits", "page"] (defScope s_has_bit) := ⟨rfl, rfl, rfl, by decide +kernel, rfl, by decide +kernel, by decide +kernel⟩
abbrev s_longer_ways : Stmt := topS 14
theorem sc_longer_ways : FnScope ["site", "ways", "found", "number", "page", "bits", "last", "key"] ["site", "ways"] (defScope s_longer_ways) := ⟨rfl, rfl, rfl, by decide +kernel, rfl, by decide +kernel, by decide +kernel⟩
abbrev s_trails_from : Stmt := topS 15
theorem sc_trails_from : GScope ["site", "page", "links", "waiting", "trail", "row", "other"] ["site", "page"] (defScope s_trails_from) := ⟨rfl, rfl, rfl, by decide +kernel, rfl, by decide +kernel, by decide +kernel⟩
abbrev s_count_trails : Stmt := topS 16
theorem sc_count_trails : FnScope ["site", "page", "ways", "found"] ["site", "page"] (defScope s_count_trails) := ⟨rfl, rfl, rfl, by decide +kernel, rfl, by decide +kernel, by decide +kernel⟩
abbrev s_law_pool : Stmt := topS 18
theorem sc_law_pool : FnScope ["_law_script", "_law_k", "_law_cell"] ["_law_script", "_law_k"] (defScope s_law_pool) := ⟨rfl, rfl, rfl, by decide +kernel, rfl, by decide +kernel, by decide +kernel⟩
abbrev s_law_draw : Stmt := topS 19
theorem sc_law_draw : FnScope ["_law_pool_here", "_law_many", "_law_mixed", "_law_digit"] ["_law_pool_here", "_law_many"] (defScope s_law_draw) := ⟨rfl, rfl, rfl, by decide +kernel, rfl, by decide +kernel, by decide +kernel⟩
abbrev s_law_net : Stmt := topS 20
theorem sc_law_net : FnScope ["_law_pool_here", "_law_script", "_law_most", "_law_share", "_law_found", "_law_spot", "_law_many", "_law_style", "_law_row", "_law_far", "_law_hit", "_law_able"] ["_law_pool_here", "_law_script", "_law_most"] (defScope s_law_net) := ⟨rfl, rfl, rfl, by decide +kernel, rfl, by decide +kernel, by decide +kernel⟩
abbrev s_law_behind : Stmt := topS 21
theorem sc_law_behind : FnScope ["_law_net_here", "_law_row", "_law_able", "_law_far", "_law_last"] ["_law_net_here", "_law_row"] (defScope s_law_behind) := ⟨rfl, rfl, rfl, by decide +kernel, rfl, by decide +kernel, by decide +kernel⟩
abbrev s_law_ways : Stmt := topS 22
theorem sc_law_ways : FnScope ["_law_net_here", "_law_used", "_law_last", "_law_kept", "_law_bits", "_law_key", "_law_found", "_law_far"] ["_law_net_here", "_law_used", "_law_last", "_law_kept"] (defScope s_law_ways) := ⟨rfl, rfl, rfl, by decide +kernel, rfl, by decide +kernel, by decide +kernel⟩
abbrev s_law_first : Stmt := topS 23
theorem sc_law_first : FnScope ["_law_net_here", "_law_spot", "_law_count", "_law_found", "_law_row"] ["_law_net_here", "_law_spot", "_law_count"] (defScope s_law_first) := ⟨rfl, rfl, rfl, by decide +kernel, rfl, by decide +kernel, by decide +kernel⟩
abbrev s_law_right : Stmt := topS 24
theorem sc_law_right : FnScope ["_law_net_here", "_law_spot", "_law_some", "_law_told", "_law_bits", "_law_many", "_law_before", "_law_due"] ["_law_net_here", "_law_spot"] (defScope s_law_right) := ⟨rfl, rfl, rfl, by decide +kernel, rfl, by decide +kernel, by decide +kernel⟩
abbrev s_law_full_right : Stmt := topS 25
theorem sc_law_full_right : FnScope ["_law_size", "_law_less", "_law_net_here", "_law_total", "_law_product", "_law_spot", "_law_far"] ["_law_size"] (defScope s_law_full_right) := ⟨rfl, rfl, rfl, by decide +kernel, rfl, by decide +kernel, by decide +kernel⟩
abbrev s_law : Stmt := topS 26
theorem sc_law : FnScope ["_law_script", "_law_k", "_law_pool_here", "_law_net_here", "_law_small", "_law_turned", "_law_some", "_law_row", "_law_spot", "_law_far"] ["_law_script"] (defScope s_law) := ⟨rfl, rfl, rfl, by decide +kernel, rfl, by decide +kernel, by decide +kernel⟩
set_option genInjectivity false in
set_option genSizeOf false in
structure Txt (K : PySem.W.Frag) (mg : Str → Option Value) where
  f_is_integer : Addr
  fd_is_integer : FuncData
  F_is_integer : Fun K "is_integer" "is_integer" s_is_integer f_is_integer fd_is_integer
  m_is_integer : mg "is_integer" = some (.ref f_is_integer)
  b_is_integer : Binds K fd_is_integer ["value", "least", "most"] []
  f_is_row : Addr
  fd_is_row : FuncData
  F_is_row : Fun K "is_row" "is_row" s_is_row f_is_row fd_is_row
  m_is_row : mg "is_row" = some (.ref f_is_row)
  b_is_row : Binds K fd_is_row ["value", "page", "many"] []
  f_is_site : Addr
  fd_is_site : FuncData
  F_is_site : Fun K "is_site" "is_site" s_is_site f_is_site fd_is_site
  m_is_site : mg "is_site" = some (.ref f_is_site)
  b_is_site : Binds K fd_is_site ["value"] []
  f_check_site : Addr
  fd_check_site : FuncData
  F_check_site : Fun K "check_site" "check_site" s_check_site f_check_site fd_check_site
  m_check_site : mg "check_site" = some (.ref f_check_site)
  b_check_site : Binds K fd_check_site ["site"] []
  f_check_page : Addr
  fd_check_page : FuncData
  F_check_page : Fun K "check_page" "check_page" s_check_page f_check_page fd_check_page
  m_check_page : mg "check_page" = some (.ref f_check_page)
  b_check_page : Binds K fd_check_page ["site", "page"] []
  f_has_bit : Addr
  fd_has_bit : FuncData
  F_has_bit : Fun K "has_bit" "has_bit" s_has_bit f_has_bit fd_has_bit
  m_has_bit : mg "has_bit" = some (.ref f_has_bit)
  b_has_bit : Binds K fd_has_bit ["bits", "page"] []
  f_longer_ways : Addr
  fd_longer_ways : FuncData
  F_longer_ways : Fun K "longer_ways" "longer_ways" s_longer_ways f_longer_ways fd_longer_ways
  m_longer_ways : mg "longer_ways" = some (.ref f_longer_ways)
  b_longer_ways : Binds K fd_longer_ways ["site", "ways"] []
  f_trails_from : Addr
  fd_trails_from : FuncData
  F_trails_from : Fun K "trails_from" "trails_from" s_trails_from f_trails_from fd_trails_from
  m_trails_from : mg "trails_from" = some (.ref f_trails_from)
  b_trails_from : Binds K fd_trails_from ["site", "page"] []
  f_count_trails : Addr
  fd_count_trails : FuncData
  F_count_trails : Fun K "count_trails" "count_trails" s_count_trails f_count_trails fd_count_trails
  m_count_trails : mg "count_trails" = some (.ref f_count_trails)
  b_count_trails : Binds K fd_count_trails ["site", "page"] []
  f_law_pool : Addr
  fd_law_pool : FuncData
  F_law_pool : Fun K "_law_pool" "_law_pool" s_law_pool f_law_pool fd_law_pool
  m_law_pool : mg "_law_pool" = some (.ref f_law_pool)
  b_law_pool : Binds K fd_law_pool ["_law_script", "_law_k"] []
  f_law_draw : Addr
  fd_law_draw : FuncData
  F_law_draw : Fun K "_law_draw" "_law_draw" s_law_draw f_law_draw fd_law_draw
  m_law_draw : mg "_law_draw" = some (.ref f_law_draw)
  b_law_draw : Binds K fd_law_draw ["_law_pool_here", "_law_many"] []
  f_law_net : Addr
  fd_law_net : FuncData
  F_law_net : Fun K "_law_net" "_law_net" s_law_net f_law_net fd_law_net
  m_law_net : mg "_law_net" = some (.ref f_law_net)
  b_law_net : Binds K fd_law_net ["_law_pool_here", "_law_script", "_law_most"] []
  f_law_behind : Addr
  fd_law_behind : FuncData
  F_law_behind : Fun K "_law_behind" "_law_behind" s_law_behind f_law_behind fd_law_behind
  m_law_behind : mg "_law_behind" = some (.ref f_law_behind)
  b_law_behind : Binds K fd_law_behind ["_law_net_here", "_law_row"] []
  f_law_ways : Addr
  fd_law_ways : FuncData
  F_law_ways : Fun K "_law_ways" "_law_ways" s_law_ways f_law_ways fd_law_ways
  m_law_ways : mg "_law_ways" = some (.ref f_law_ways)
  b_law_ways : Binds K fd_law_ways ["_law_net_here", "_law_used", "_law_last", "_law_kept"] []
  f_law_first : Addr
  fd_law_first : FuncData
  F_law_first : Fun K "_law_first" "_law_first" s_law_first f_law_first fd_law_first
  m_law_first : mg "_law_first" = some (.ref f_law_first)
  b_law_first : Binds K fd_law_first ["_law_net_here", "_law_spot", "_law_count"] []
  f_law_right : Addr
  fd_law_right : FuncData
  F_law_right : Fun K "_law_right" "_law_right" s_law_right f_law_right fd_law_right
  m_law_right : mg "_law_right" = some (.ref f_law_right)
  b_law_right : Binds K fd_law_right ["_law_net_here", "_law_spot"] []
  f_law_full_right : Addr
  fd_law_full_right : FuncData
  F_law_full_right : Fun K "_law_full_right" "_law_full_right" s_law_full_right f_law_full_right fd_law_full_right
  m_law_full_right : mg "_law_full_right" = some (.ref f_law_full_right)
  b_law_full_right : Binds K fd_law_full_right ["_law_size"] []
  f_law : Addr
  fd_law : FuncData
  F_law : Fun K "law" "law" s_law f_law fd_law
  m_law : mg "law" = some (.ref f_law)
  b_law : Binds K fd_law ["_law_script"] []
  a_BITS : Addr
  c_BITS : mg "BITS" = some (.ref a_BITS)
  s_BITS : TupK K a_BITS [1, 2, 4, 8, 16, 32, 64, 128, 256, 512, 1024, 2048]
  t_MOST_PAGES : Tok
  c_MOST_PAGES : mg "MOST_PAGES" = some (.int 12 t_MOST_PAGES)
  n_abs : mg "abs" = none
  n_all : mg "all" = none
  n_bool : mg "bool" = none
  n_enumerate : mg "enumerate" = none
  n_int : mg "int" = none
  n_isinstance : mg "isinstance" = none
  n_len : mg "len" = none
  n_list : mg "list" = none
  n_max : mg "max" = none
  n_min : mg "min" = none
  n_range : mg "range" = none
  n_repr : mg "repr" = none
  n_set : mg "set" = none
  n_sorted : mg "sorted" = none
  n_sum : mg "sum" = none
local macro_rules | `(tactic| walk_at "sx") => `(tactic| try simp only [x_din, x_dnotin, x_iitemsT, x_dispT1, x_valsT, x_lockT, SL.x_yfor, SL.x_yplain, SL.x_ythen, SL.x_y0, SL.x_yyield, SL.x_ywhile, SL.x_callY, SL.x_callYK, x_gwhile, x_callG, x_g0, x_gfor, x_gplain, x_gthen, x_gyield, x_listG, x_dnewT, x_dget, x_dget2, x_dput, x_seq, x_next, x_brk, x_cnt, x_nev, x_ret, x_retN, x_drop, x_ifS, x_asg, x_gn, x_gsub, x_par, x_par3, x_aug, x_for, x_lc, x_rng1, x_rng2, x_rng3, x_ilist, x_itup, x_ienum, x_izip, x_izipA, x_istr, x_var, x_c, x_op, x_un, x_test, x_b, x_chain, x_and, x_or, x_not, x_andV, x_orV, x_notV, x_ife, x_nil, x_cons, x_lst, x_tup, x_cb, x_call, x_callK, x_bm, x_bm0, x_tru, x_sl, x_nopart, x_part, x_revL, x_I0, x_I, x_U, x_ip, x_ipC, x_eqI, x_neI, x_eqB, x_neB, x_eqS, x_neS, x_isB, x_isNB, x_lrg, x_gall, x_lenSet, x_augS, x_sortSet, x_rg1, x_rg2,
  L2.start, List.map_cons, List.map_nil, List.length_cons, List.length_nil, Nat.reduceAdd, Nat.reduceSub, Nat.sub_self, Nat.zero_add, List.replicate, List.replicate_succ, List.replicate_zero, List.append_nil, List.cons_append, List.nil_append, List.set_cons_zero, List.set_cons_succ, List.getElem?_cons_zero, List.getElem?_cons_succ, Option.some.injEq, V.int.injEq, V.bl.injEq, V.ref.injEq, V.str.injEq, List.cons.injEq, and_true, true_and, exists_eq_left', exists_eq_left, exists_and_left, exists_eq, if_true, if_false, ite_true, ite_false, Bool.true_eq_false, Bool.false_eq_true, reduceIte, reduceCtorEq, Bool.not_true, Bool.not_false, decide_true, decide_false, decide_eq_true_eq, Bool.and_true, Bool.true_and, Bool.and_self, Bool.and_false, Bool.false_and, Bool.or_self, Bool.or_false, Bool.false_or, Bool.or_true, Bool.true_or, eq_self])
section
variable {P : Program} {w : World} {K : PySem.W.Frag} {mg : Str → Option Value} {base : Heap}
def spIsInt : Sp := fun vs H Q _ => ∃ i lo hi : Int, vs = [.int i, .int lo, .int hi] ∧ Q (.bl (decide (lo ≤ i) && decide (i ≤ hi))) H
theorem ok_is_integer (T : Txt K mg) : FnOk P w K mg base CX0 1 T.f_is_integer T.fd_is_integer ["value", "least", "most"] spIsInt := by
  refine T.F_is_integer.ok sc_is_integer (fun vs H Q E h => ?_) (fun cdv A outer s H vs Q E hr h => ?_)
  · obtain ⟨i, lo, hi, rfl, _⟩ := h
    rfl
  · obtain ⟨i, lo, hi, rfl, k⟩ := h
    apply Exists.intro
    apply And.intro
    · apply pss_one
      exact (ps_ret (pe_and (pe_callB (k_isi (K := K) rfl) (by rfl) T.n_isinstance (by decide +kernel) (pa_cons (pv 0) (pa_cons (pe_bltn (v := .ty "int") (by rfl) T.n_int (by decide +kernel) rfl) pa_nil))) (pe_and (pe_not (pe_callB (k_isi (K := K) rfl) (by rfl) T.n_isinstance (by decide +kernel) (pa_cons (pv 0) (pa_cons (pe_bltn (v := .ty "bool") (by rfl) T.n_bool (by decide +kernel) rfl) pa_nil)))) (pe_one (pe_chain op_le op_le (pv 1) (pv 0) (pv 2))))))
    walk_at "sx"
    refine isi_int (b := true) (by decide +kernel) ?_
    walk_at "sx"
    refine isi_int (b := false) (by decide +kernel) ?_
    walk_at "sx"
    by_cases h1 : lo ≤ i
    · simpa [h1] using k
    · simpa [h1] using k
end
/-! ### sites.py on sites -/
section
variable {P : Program} {w : World} {K : PySem.W.Frag} {mg : Str → Option Value} {base : Heap}
def spIsRow (K : PySem.W.Frag) : Sp := fun vs H Q _ => ∃ (a : Addr) (r : List Nat) (i n : Nat), vs = [.ref a, .int i, .int n] ∧ SqL K H a ((nz r).map V.int) ∧ r.Pairwise (· < ·) ∧ (∀ x ∈ r, x < n) ∧ i ∉ r ∧ r.length ≤ 12 ∧ ∀ H', Ex H H' → Q (.bl true) H'
theorem bl_true (n : Nat) : List.replicate n (V.bl true) = (List.replicate n true).map V.bl := by rw [List.map_replicate]
theorem ok_is_row (T : Txt K mg) : FnOk P w K mg base CX0 2 T.f_is_row T.fd_is_row ["value", "page", "many"] (spIsRow K) := by
  refine T.F_is_row.ok sc_is_row (fun vs H Q E h => ?_) (fun cdv A outer s H vs Q E hr h => ?_)
  · obtain ⟨a, r, i, n, rfl, _⟩ := h
    rfl
  · obtain ⟨a, r, i, n, rfl, hA, asc, lt, no, hl, k⟩ := h
    apply Exists.intro
    apply And.intro
    · apply pss_cons
      · apply ps_if
        · exact (PW.pt (pw_or (pt_not (pt_val (pe_callB (k_isi (K := K) rfl) (by rfl) T.n_isinstance (by decide +kernel) (pa_cons (pv 0) (pa_cons (pe_bltn (v := .ty "list") (by rfl) T.n_list (by decide +kernel) rfl) pa_nil))))) (pw_or1 (pt_not (pt_val (pe_callB (k_all (K := K) rfl rfl) (by rfl) T.n_all (by decide +kernel) (pa_cons (pe_lc (own := [("other", 3)]) rfl sc_is_row.nd (k_pi_list (K := K) rfl (pv 0)) (blkOk_by (own := [("other", 3)]) (N := ["value", "page", "many", "other"]) (sc := defScope s_is_row) (by decide +kernel)) (fun _ _ _ _ _ => by exact (pg_name (i := 3) sc_is_row.nd rfl (.inl rfl))) (fun _ _ _ _ _ => by exact pts_nil) (fun _ _ _ _ _ => by exact (pe_call (ok_is_integer T) (hr.mono (by decide)) (by rfl) T.m_is_integer T.F_is_integer.kp T.b_is_integer .nil pass0 (pa_cons (pv 3) (pa_cons pe_int (pa_cons (pe_op op_sub (pv 2) pe_int) pa_nil)))))) pa_nil)))))))
        · apply pss_one
          exact (ps_ret pe_bl)
        · exact pss_nil
      apply pss_one
      exact (ps_ret (pe_and (pe_cmpR (k_notIn (K := K) rfl) (pv 1) (pv 0) (by rfl)) (pe_one (pe_cmpR (k_eqD (K := K) rfl hr.units) (pv 0) (k_sortSet (K := K) rfl (by rfl) T.n_sorted (by rfl) T.n_set (pv 0)) (by rfl)))))
    walk_at "sx"
    refine isi_x (b := true) (tyx_l hA) (by decide +kernel) ?_
    walk_at "sx"
    refine ⟨⟨_, hA⟩, fun D nD => ?_⟩
    refine lc_list (fun _ => true) (fun _ => V.bl true) hA nD (by rw [List.length_map, nz_len]; omega) (fun u => rfl) (fun i x _ => tyes) (fun i x hx _ => ?_) (fun H2 e2 hD => ?_)
    · obtain ⟨x, hx', rfl⟩ := at_nz hx
      have := lt x (List.mem_of_getElem? hx')
      intro H3 e3 R hR
      walk_at "sx"
      refine ⟨_, rfl, _, rfl, ?_⟩
      walk_at "sx"
      refine ⟨_, _, _, rfl, ?_⟩
      rw [decide_eq_true (show (0 : Int) ≤ (x : Int) by omega), decide_eq_true (show ((x : Nat) : Int) ≤ (n : Int) - 1 by omega)]
      exact hR _ (Ex.refl _)
    · rw [kept_const, bl_true] at hD
      refine allL (.inl (.inl hD)) ?_
      rw [all_true]
      walk_at "sx"
      have hA2 := ex_l e2 hA
      refine ninL hA2 ?_
      rw [decide_eq_false (fun m => no (nz_mem.mp m))]
      walk_at "sx"
      refine ⟨_, hA2, by rw [nz_len]; omega, fun ms p pw mem np => ?_⟩
      have ep := Ex.new np (o := .lst (ms.map V.int))
      obtain rfl := asc_same pw (lts asc) mem
      refine eqInts (ex_l ep hA2) (.inl (.inl upd_same)) ?_
      rw [decide_eq_true rfl]
      exact k _ (e2.trans ep)
def spIsSite (K : PySem.W.Frag) : Sp := fun vs H Q _ => ∃ (s : Addr) (G : Grid), vs = [.ref s] ∧ GridAt H s G ∧ SiteOk G ∧ ∀ H', Ex H H' → Q (.bl true) H'
theorem ok_is_site (T : Txt K mg) : FnOk P w K mg base CX0 3 T.f_is_site T.fd_is_site ["value"] (spIsSite K) := by
  refine T.F_is_site.ok sc_is_site (fun vs H Q E h => ?_) (fun cdv A outer s H vs Q E hr h => ?_)
  · obtain ⟨s, G, rfl, _⟩ := h
    rfl
  · obtain ⟨s, G, rfl, hS, ok, k⟩ := h
    apply Exists.intro
    apply And.intro
    · apply pss_cons
      · apply ps_if
        · exact (PW.pt (pw_or (pt_not (pt_val (pe_callB (k_isi (K := K) rfl) (by rfl) T.n_isinstance (by decide +kernel) (pa_cons (pv 0) (pa_cons (pe_bltn (v := .ty "list") (by rfl) T.n_list (by decide +kernel) rfl) pa_nil))))) (pw_or1 (pt_not (pt_chain op_le op_le pe_int (pe_callB (k_len (K := K) rfl) (by rfl) T.n_len PySem.boot_len (pa_cons (pv 0) pa_nil)) (pe_glob (v := .int 12) rfl T.c_MOST_PAGES ⟨_, rfl⟩))))))
        · apply pss_one
          exact (ps_ret pe_bl)
        · exact pss_nil
      apply pss_one
      exact (ps_ret (pe_callB (k_all (K := K) rfl rfl) (by rfl) T.n_all (by decide +kernel) (pa_cons (pe_lc (own := [("page", 1), ("row", 2)]) rfl sc_is_site.nd (k_pi_enum (K := K) rfl (by rfl) T.n_enumerate (pa_cons (pv 0) pa_nil)) (blkOk_by (own := [("page", 1), ("row", 2)]) (N := ["value", "page", "row"]) (sc := defScope s_is_site) (by decide +kernel)) (fun _ _ _ _ _ => by exact (k_tup (K := K) (n := 2) rfl rfl (pgs_cons (pg_name (i := 1) sc_is_site.nd rfl (.inl rfl)) (pgs_cons (pg_name (i := 2) sc_is_site.nd rfl (.inl rfl)) pgs_nil)))) (fun _ _ _ _ _ => by exact pts_nil) (fun _ _ _ _ _ => by exact (pe_call (ok_is_row T) (hr.mono (by decide)) (by rfl) T.m_is_row T.F_is_row.kp T.b_is_row .nil pass0 (pa_cons (pv 2) (pa_cons (pv 1) (pa_cons (pe_callB (k_len (K := K) rfl) (by rfl) T.n_len PySem.boot_len (pa_cons (pv 0) pa_nil)) pa_nil)))))) pa_nil)))
    obtain ⟨xs, hs, hl, hrow⟩ := hS.lst
    have n1 := ok.n1
    have n2 := ok.n2
    walk_at "sx"
    refine isi_x (b := true) (tyx_l (.inl (.inl hs))) (by decide +kernel) ?_
    walk_at "sx"
    refine lenL (.inl (.inl hs)) ?_
    walk_at "sx"
    rw [hl]
    have c1 : (1 : Int) ≤ ((G.length : Nat) : Int) := by omega
    have c2 : ((G.length : Nat) : Int) ≤ 12 := by omega
    simp only [c1, c2]
    walk_at "sx"
    refine ⟨_, .inl (.inl hs), fun D nD => ?_⟩
    refine lc_enum (fun _ => true) (fun _ => V.bl true) (.inl (.inl hs)) nD (by omega) (fun u v => rfl) (fun i x _ => tyes) (fun i x hx _ => ?_) (fun H2 e2 hD => ?_)
    · obtain ⟨hi, p, rfl, hp⟩ := hrow i x hx
      intro H3 e3 R hR
      walk_at "sx"
      refine ⟨_, rfl, _, rfl, _, rfl, ?_⟩
      refine lenL (.inl (.inl (e3 _ _ hs))) ?_
      rw [hl]
      have at' := at_row hi
      refine ⟨p, row G i, i, G.length, rfl, .inl (.inl (e3 _ _ hp)), ok.asc i _ at', ok.lt i _ at', ok.no i _ at', ok.rlen i, fun H4 e4 => hR _ e4⟩
    · rw [kept_const, bl_true] at hD
      refine allL (.inl (.inl hD)) ?_
      rw [all_true]
      exact k _ e2
def spChkSite (K : PySem.W.Frag) : Sp := fun vs H Q _ => ∃ (s : Addr) (G : Grid), vs = [.ref s] ∧ GridAt H s G ∧ SiteOk G ∧ ∀ H', Ex H H' → Q .non H'
theorem ok_check_site (T : Txt K mg) : FnOk P w K mg base CX0 4 T.f_check_site T.fd_check_site ["site"] (spChkSite K) := by
  refine T.F_check_site.ok sc_check_site (fun vs H Q E h => ?_) (fun cdv A outer s H vs Q E hr h => ?_)
  · obtain ⟨s, G, rfl, _⟩ := h
    rfl
  · obtain ⟨s, G, rfl, hS, ok, k⟩ := h
    apply Exists.intro
    apply And.intro
    · apply pss_one
      apply ps_if
      · exact (pt_not (pt_val (pe_call (ok_is_site T) (hr.mono (by decide)) (by rfl) T.m_is_site T.F_is_site.kp T.b_is_site .nil pass0 (pa_cons (pv 0) pa_nil))))
      · apply pss_one
        exact ps_never
      · exact pss_nil
    walk_at "sx"
    refine ⟨s, G, rfl, hS, ok, fun H1 e1 => ?_⟩
    walk_at "sx"
    exact k _ e1
def spChkPage (K : PySem.W.Frag) : Sp := fun vs H Q _ => ∃ (s : Addr) (G : Grid) (p : Nat), vs = [.ref s, .int p] ∧ GridAt H s G ∧ p < G.length ∧ Q .non H
theorem ok_check_page (T : Txt K mg) : FnOk P w K mg base CX0 2 T.f_check_page T.fd_check_page ["site", "page"] (spChkPage K) := by
  refine T.F_check_page.ok sc_check_page (fun vs H Q E h => ?_) (fun cdv A outer s H vs Q E hr h => ?_)
  · obtain ⟨s, G, p, rfl, _⟩ := h
    rfl
  · obtain ⟨s, G, p, rfl, hS, hp, k⟩ := h
    apply Exists.intro
    apply And.intro
    · apply pss_one
      apply ps_if
      · exact (pt_not (pt_val (pe_call (ok_is_integer T) (hr.mono (by decide)) (by rfl) T.m_is_integer T.F_is_integer.kp T.b_is_integer .nil pass0 (pa_cons (pv 1) (pa_cons pe_int (pa_cons (pe_op op_sub (pe_callB (k_len (K := K) rfl) (by rfl) T.n_len PySem.boot_len (pa_cons (pv 0) pa_nil)) pe_int) pa_nil))))))
      · apply pss_one
        exact ps_never
      · exact pss_nil
    obtain ⟨xs, hs, hl, hrow⟩ := hS.lst
    walk_at "sx"
    refine lenL (.inl (.inl hs)) ?_
    walk_at "sx"
    rw [hl]
    refine ⟨_, _, _, rfl, ?_⟩
    rw [decide_eq_true (show (0 : Int) ≤ (p : Int) by omega), decide_eq_true (show ((p : Nat) : Int) ≤ ((G.length : Nat) : Int) - 1 by omega)]
    walk_at "sx"
    exact k
end
end LW
set_option Elab.async false
set_option linter.all false
set_option maxRecDepth 100000
set_option maxHeartbeats 4000000
namespace LW
open PySem PySem.Spec PyProof.Rows L2 BC Evl TR
local macro_rules | `(tactic| walk_at "sx") => `(tactic| try simp only [x_din, x_dnotin, x_iitemsT, x_dispT1, x_valsT, x_lockT, SL.x_yfor, SL.x_yplain, SL.x_ythen, SL.x_y0, SL.x_yyield, SL.x_ywhile, SL.x_callY, SL.x_callYK, x_gwhile, x_callG, x_g0, x_gfor, x_gplain, x_gthen, x_gyield, x_listG, x_dnewT, x_dget, x_dget2, x_dput, x_seq, x_next, x_brk, x_cnt, x_nev, x_ret, x_retN, x_drop, x_ifS, x_asg, x_gn, x_gsub, x_par, x_par3, x_aug, x_for, x_lc, x_rng1, x_rng2, x_rng3, x_ilist, x_itup, x_ienum, x_izip, x_izipA, x_istr, x_var, x_c, x_op, x_un, x_test, x_b, x_chain, x_and, x_or, x_not, x_andV, x_orV, x_notV, x_ife, x_nil, x_cons, x_lst, x_tup, x_cb, x_call, x_callK, x_bm, x_bm0, x_tru, x_sl, x_nopart, x_part, x_revL, x_I0, x_I, x_U, x_ip, x_ipC, x_eqI, x_neI, x_eqB, x_neB, x_eqS, x_neS, x_isB, x_isNB, x_lrg, x_gall, x_lenSet, x_augS, x_sortSet, x_rg1, x_rg2,
  L2.start, List.map_cons, List.map_nil, List.length_cons, List.length_nil, Nat.reduceAdd, Nat.reduceSub, Nat.sub_self, Nat.zero_add, List.replicate, List.replicate_succ, List.replicate_zero, List.append_nil, List.cons_append, List.nil_append, List.set_cons_zero, List.set_cons_succ, List.getElem?_cons_zero, List.getElem?_cons_succ, Option.some.injEq, V.int.injEq, V.bl.injEq, V.ref.injEq, V.str.injEq, List.cons.injEq, and_true, true_and, exists_eq_left', exists_eq_left, exists_and_left, exists_eq, if_true, if_false, ite_true, ite_false, Bool.true_eq_false, Bool.false_eq_true, reduceIte, reduceCtorEq, Bool.not_true, Bool.not_false, decide_true, decide_false, decide_eq_true_eq, Bool.and_true, Bool.true_and, Bool.and_self, Bool.and_false, Bool.false_and, Bool.or_self, Bool.or_false, Bool.false_or, Bool.or_true, Bool.true_or, eq_self])
section
variable {P : Program} {w : World} {K : PySem.W.Frag} {mg : Str → Option Value} {base : Heap}
theorem bit_at {x : Nat} (h : x < 12) : (([1, 2, 4, 8, 16, 32, 64, 128, 256, 512, 1024, 2048] : List Int).map V.int)[x]? = some (.int ((2 ^ x : Nat) : Int)) := by
  have : ∀ x : Fin 12, ([1, 2, 4, 8, 16, 32, 64, 128, 256, 512, 1024, 2048] : List Int)[x.val]? = some ((2 ^ x.val : Nat) : Int) := by decide
  rw [List.getElem?_map, this ⟨x, h⟩]
  rfl
theorem ixT {H : Hp} {Q : VK} {p : Addr} {xs : List V} {i : Int} {v : V} (h : SqT K H p xs) (hi : atI xs i = some v) (q : Q v H) : rIxT K (.ref p) (.int i) H Q := ⟨p, xs, i, v, rfl, rfl, h, hi, q⟩
theorem g_nest {i j k : Nat} {σ : L2.St} {H : Hp} {T q : Addr} {x y z : V} {QG : L2.St → Hp → Prop} (h : H T = some (.tup [.ref q, z])) (hq : H q = some (.tup [x, y])) (r : QG (((σ.set i (some x)).set j (some y)).set k (some z)) H) :
    gTup K 2 (gCons (gTup K 2 (gCons (gName i) (gCons (gName j) gNil))) (gCons (gName k) gNil)) (.ref T) σ H QG :=
  ⟨T, [.ref q, z], rfl, .inl (.inl h), rfl, .ref q, [z], rfl, q, [x, y], rfl, .inl (.inl hq), rfl, x, [y], rfl, y, [], rfl, rfl, z, [], rfl, rfl, r⟩
def spHas : Sp := fun vs H Q _ => ∃ (b x : Nat), vs = [.int b, .int x] ∧ x < 12 ∧ Q (.bl (TF.hb b x)) H
theorem ok_has_bit (T : Txt K mg) : FnOk P w K mg base CX0 1 T.f_has_bit T.fd_has_bit ["bits", "page"] spHas := by
  refine T.F_has_bit.ok sc_has_bit (fun vs H Q E h => ?_) (fun cdv A outer s H vs Q E hr h => ?_)
  · obtain ⟨b, x, rfl, _⟩ := h
    rfl
  · obtain ⟨b, x, rfl, hx, k⟩ := h
    apply Exists.intro
    apply And.intro
    · apply pss_one
      exact (ps_ret (pe_cmpR op_eq (pe_op op_modX (pe_op op_fdivX (pv 0) (pe_ix (k_ix_tup (K := K) rfl) (pe_glob (v := V.ref T.a_BITS) (by rfl) T.c_BITS rfl) (pv 1) (fun _ _ => rfl))) pe_int) pe_int (by rfl)))
    walk_at "sx"
    refine ixT (T.s_BITS.at H) (atI_n (j := x) (by rfl) (bit_at hx)) ?_
    walk_at "sx"
    have hp := Nat.two_pow_pos x
    have hp2 : 2 ^ x ≤ 2 ^ 11 := Nat.pow_le_pow_right (by decide) (by omega)
    refine ⟨⟨by omega, Nat.lt_of_le_of_lt (Nat.log2_le_self _) (by omega)⟩, by decide, ?_⟩
    have e : (((b : Nat) : Int) / ((2 ^ x : Nat) : Int)) % 2 = ((b / 2 ^ x % 2 : Nat) : Int) := by rw [Int.natCast_emod, Int.natCast_ediv]; rfl
    have e2 : decide (((b / 2 ^ x % 2 : Nat) : Int) = 1) = TF.hb b x := by
      unfold TF.hb
      exact decide_eq_decide.mpr (by omega)
    rw [e, e2]
    exact k
theorem sz_big {n : Nat} (h : n < 1000000) : n < sizeLine := Nat.lt_of_lt_of_le h (by decide)
/-- .. longer by one page -/
def spLonger : Sp := fun vs H Q _ => ∃ (s d : Addr) (G : Grid) (L : TF.KD) (T0 : List (List Nat)), vs = [.ref s, .ref d] ∧ GridAt H s G ∧ SiteOk G ∧ H d = some (.dT (renP L)) ∧ TF.Lr L T0 ∧ (∀ t ∈ T0, TF.TrOk G t) ∧ L.length ≤ 70000 ∧
  ∀ f H', H f = none → Ex H H' → H' f = some (.dT (renP (TF.longer G [] L))) → Q (.ref f) H'
theorem put2_len (L : TF.KD) (k : Nat × Nat) (n : Nat) : (TF.put2 L k n).length ≤ L.length + 1 := by
  unfold TF.put2
  split
  · rw [List.length_map]; omega
  · rw [List.length_append, List.length_singleton]; exact Nat.le_refl _
def Ls (G : Grid) (L : TF.KD) (i : Nat) : TF.KD := TF.longer G [] (L.take i)
def Li (G : Grid) (L : TF.KD) (i : Nat) (e : (Nat × Nat) × Nat) (j : Nat) : TF.KD := TF.ext1 G (Ls G L i) e ((row G e.1.2).take j)
theorem Li_succ {G : Grid} {L : TF.KD} {i : Nat} {e : (Nat × Nat) × Nat} {j x : Nat} (h : (row G e.1.2)[j]? = some x) : Li G L i e (j + 1) = if TF.hb e.1.1 x then Li G L i e j else TF.add2 (Li G L i e j) (e.1.1 + 2 ^ x, x) e.2 := by
  unfold Li TF.ext1
  rw [List.take_add_one, h, List.foldl_append]
  rfl
theorem Ls_succ {G : Grid} {L : TF.KD} {i : Nat} {e : (Nat × Nat) × Nat} (h : L[i]? = some e) : Ls G L (i + 1) = Li G L i e (row G e.1.2).length := by
  unfold Li Ls TF.longer
  rw [List.take_add_one, h, List.foldl_append, List.take_of_length_le (Nat.le_refl _)]
  rfl
def JLo (HF : Hp) (s d p : Addr) (G : Grid) (L : TF.KD) (i : Nat) (σ' : L2.St) (H' : Hp) : Prop := ∃ l3 l4 l5 l6 l7, σ' = [some (.ref s), some (.ref d), some (.ref p), l3, l4, l5, l6, l7] ∧ Fx p HF H' ∧ H' p = some (.dT (renP (Ls G L i))) ∧ (Ls G L i).length ≤ 12 * i
def JLi (HF : Hp) (s d p : Addr) (G : Grid) (L : TF.KD) (i : Nat) (e : (Nat × Nat) × Nat) (j : Nat) (σ' : L2.St) (H' : Hp) : Prop := ∃ l4 l7, σ' = [some (.ref s), some (.ref d), some (.ref p), some (.int e.2), l4, some (.int e.1.1), some (.int e.1.2), l7] ∧ Fx p HF H' ∧ H' p = some (.dT (renP (Li G L i e j))) ∧ (Li G L i e j).length ≤ 12 * i + j
theorem ok_longer_ways (T : Txt K mg) : FnOk P w K mg base CX0 2 T.f_longer_ways T.fd_longer_ways ["site", "ways"] spLonger := by
  refine T.F_longer_ways.ok sc_longer_ways (fun vs H Q E h => ?_) (fun cdv A outer s H vs Q E hr h => ?_)
  · obtain ⟨s, d, G, L, T0, rfl, _⟩ := h
    rfl
  · obtain ⟨s, d, G, L, T0, rfl, hS, ok, hd, hL, hT, hl, k⟩ := h
    apply Exists.intro
    apply And.intro
    · apply pss_cons
      · exact (ps_set (i := 2) sc_longer_ways.nd rfl (.inl rfl) pe_dnewT)
      apply pss_cons
      · apply ps_lock
        apply ps_for PassesOwn.never rfl
        · exact (pi_itemsT (pv 1))
        · exact (k_tup (K := K) (n := 2) rfl rfl (pgs_cons (k_tup (K := K) (n := 2) rfl rfl (pgs_cons (pg_name (i := 5) sc_longer_ways.nd rfl (.inl rfl)) (pgs_cons (pg_name (i := 6) sc_longer_ways.nd rfl (.inl rfl)) pgs_nil))) (pgs_cons (pg_name (i := 3) sc_longer_ways.nd rfl (.inl rfl)) pgs_nil)))
        · apply pss_one
          apply ps_for PassesOwn.never rfl
          · exact (k_pi_list (K := K) rfl (pe_ix (k_ix_list (K := K) rfl) (pv 0) (pv 6) (fun _ _ => rfl)))
          · exact (pg_name (i := 4) sc_longer_ways.nd rfl (.inl rfl))
          · apply pss_one
            apply ps_if
            · exact (pt_not (pt_val (pe_call (ok_has_bit T) (hr.mono (by decide)) (by rfl) T.m_has_bit T.F_has_bit.kp T.b_has_bit .nil pass0 (pa_cons (pv 5) (pa_cons (pv 4) pa_nil)))))
            · apply pss_cons
              · exact (ps_set (i := 7) sc_longer_ways.nd rfl (.inl rfl) (pe_tup (pa_cons (pe_op op_add (pv 5) (pe_ix (k_ix_tup (K := K) rfl) (pe_glob (v := V.ref T.a_BITS) (by rfl) T.c_BITS rfl) (pv 4) (fun _ _ => rfl))) (pa_cons (pv 4) pa_nil))))
              apply pss_one
              exact (ps_dput (hu_of hr) (pv 2) (pv 7) (pe_op op_add (pe_dget2 (hu_of hr) (pv 2) (pv 7) pe_int ⟨rfl, rfl, rfl, rfl⟩) (pv 3)) rfl)
            · exact pss_nil
      apply pss_one
      exact (ps_ret (pv 2))
    walk_at "sx"
    intro p np
    have e1 := Ex.new np (o := .dT [])
    have npd : p ≠ d := Ne.symm (ne_of_none hd np)
    refine ⟨d, _, e1 _ _ hd, trivial, fun od => ⟨od, _, upd_same, ?_⟩⟩
    have hFp : (upd (upd H p (HO.dT [])) d (HO.frz od (.dT (renP L)))) p = some (.dT (renP (Ls G L 0))) := by rw [upd_ne npd, upd_same]; rfl
    have hFd : (upd (upd H p (HO.dT [])) d (HO.frz od (.dT (renP L)))) d = some (HO.frz od (.dT (renP L))) := upd_same
    have hFo : ∀ b o, b ≠ d → H b = some o → (upd (upd H p (HO.dT [])) d (HO.frz od (.dT (renP L)))) b = some o := fun b o n h => by rw [upd_ne n]; exact e1 _ _ h
    generalize hHF : (upd (upd H p (HO.dT [])) d (HO.frz od (.dT (renP L)))) = HF at hFp hFd hFo ⊢
    obtain ⟨ps, hs, hps, hrow⟩ := hS
    have nsd : s ≠ d := fun z => by rw [z, hd] at hs; cases hs
    have nsp : s ≠ p := ne_of_none hs np
    have hrF : ∀ i q, ps[i]? = some q → q ≠ p ∧ HF q = some (.lst ((nz (row G i)).map V.int)) := fun i q hq => by
      have h1 := hrow i q hq
      exact ⟨ne_of_none h1 np, hFo _ _ (fun z => by rw [z, hd] at h1; cases h1) h1⟩
    refine lg_itemsT (JLo HF s d p G L) ⟨none, none, none, none, none, rfl, Fx.refl _ _, hFp, Nat.le_refl _⟩ (fun i σ' H' _ hP => ?_) (fun i kk v σ' H' T1 q hkv hP nT hq => ?_) (fun σ' H' hP => ?_)
    · obtain ⟨_, _, _, _, _, _, fx, _, _⟩ := hP
      exact fx _ _ (Ne.symm npd) hFd
    · obtain ⟨l3, l4, l5, l6, l7, rfl, fx, hp, hln⟩ := hP
      obtain ⟨e, he⟩ : ∃ e, L[i]? = some e := by
        have := (List.getElem?_eq_some_iff.mp hkv).1
        rw [renP_len] at this
        exact ⟨_, List.getElem?_eq_getElem this⟩
      have := renP_at he
      rw [hkv] at this
      obtain ⟨rfl, rfl⟩ := Prod.mk.inj (Option.some.inj this)
      have hme := List.mem_of_getElem? he
      obtain ⟨t, ht, ek⟩ := hL.keys e hme
      have okt := hT t ht
      have hlast : e.1.2 < G.length := by
        rw [← ek]
        show lst t < G.length
        unfold lst
        obtain ⟨y, hy⟩ : ∃ y, t.getLast? = some y := by
          cases hh : t.getLast? with
          | none => exact absurd (List.getLast?_eq_none_iff.mp hh) okt.ne
          | some y => exact ⟨y, rfl⟩
        rw [hy]
        exact okt.lt y (List.mem_of_getLast? hy)
      have nTp : T1 ≠ p := Ne.symm (ne_of_none hp nT)
      have nqT : q ≠ T1 := ne_of_none hq nT
      refine g_nest upd_same (by rw [upd_ne nqT]; exact hq) ?_
      simp only [List.set_cons_zero, List.set_cons_succ]
      have eT := Ex.new nT (o := .tup [.ref q, .int (e.2 : Nat)])
      have fxT := fx.trans (Fx.of (b := p) eT)
      have hpT := eT _ _ hp
      generalize upd H' T1 (.tup [.ref q, .int (e.2 : Nat)]) = H2 at eT fxT hpT ⊢
      walk_at "sx"
      obtain ⟨r, hr⟩ : ∃ r, ps[e.1.2]? = some r := ⟨_, List.getElem?_eq_getElem (by omega)⟩
      obtain ⟨nrp, hrr⟩ := hrF _ _ hr
      refine ixL (.inl (.inl (fxT _ _ nsp (hFo _ _ nsd hs)))) (atI_n (j := e.1.2) (by rfl) (by rw [List.getElem?_map, hr]; rfl)) ?_
      refine ⟨r, rfl, ⟨_, .inl (.inl (fxT _ _ nrp hrr))⟩, ?_⟩
      refine lg_list (xs := (nz (row G e.1.2)).map V.int) (JLi HF s d p G L i e) ⟨l4, l7, rfl, fxT, hpT, by rw [show Li G L i e 0 = Ls G L i from rfl]; exact hln⟩ (fun j σ' H' _ hP => ?_) (fun j x σ' H' hx hP => ?_) (fun σ' H' hP => ?_)
      · obtain ⟨_, _, _, fx, _, _⟩ := hP
        exact .inl (.inl (fx _ _ nrp hrr))
      · obtain ⟨l4, l7, rfl, fx, hp2, hl2⟩ := hP
        obtain ⟨x, hx', rfl⟩ := at_nz hx
        have x12 : x < 12 := by
          have := ok.rlt (List.mem_of_getElem? hx')
          have := ok.n2
          omega
        have hsucc := Li_succ (L := L) (i := i) hx'
        walk_at "sx"
        refine ⟨e.1.1, x, rfl, x12, ?_⟩
        cases c : TF.hb e.1.1 x with
        | true =>
          walk_at "sx"
          rw [if_pos c] at hsucc
          exact ⟨_, _, rfl, fx, by rw [hsucc]; exact hp2, by rw [hsucc]; omega⟩
        | false =>
          walk_at "sx"
          rw [if_neg (by rw [c]; decide)] at hsucc
          refine ixT (T.s_BITS.at H') (atI_n (j := x) (by rfl) (bit_at x12)) ?_
          walk_at "sx"
          rw [show ((e.1.1 : Nat) : Int) + ((2 ^ x : Nat) : Int) = ((e.1.1 + 2 ^ x : Nat) : Int) from (Int.natCast_add _ _).symm]
          have hi := (List.getElem?_eq_some_iff.mp he).1
          have hj := (List.getElem?_eq_some_iff.mp hx').1
          have := ok.rlen e.1.2
          refine ⟨by decide, fun w2 nw => ?_⟩
          have ew := Ex.new nw (o := .tup [V.int ((e.1.1 + 2 ^ x : Nat) : Int), V.int (x : Nat)])
          have hp3 := ew _ _ hp2
          have hw : (upd H' w2 (.tup [V.int ((e.1.1 + 2 ^ x : Nat) : Int), V.int (x : Nat)])) w2 = some (.tup ((ky (e.1.1 + 2 ^ x, x)).map kV)) := upd_same
          refine ⟨.inr ⟨_, .inl hp3⟩, _, DGet.t (k := ky (e.1.1 + 2 ^ x, x)) hp3 hw, ?_⟩
          rw [renP_get]
          walk_at "sx"
          rw [show ((TF.get2 (Li G L i e j) (e.1.1 + 2 ^ x, x) : Nat) : Int) + ((e.2 : Nat) : Int) = ((TF.get2 (Li G L i e j) (e.1.1 + 2 ^ x, x) + e.2 : Nat) : Int) from (Int.natCast_add _ _).symm]
          refine ⟨_, DPut.t (k := ky (e.1.1 + 2 ^ x, x)) hp3 hw (sz_big (by rw [renP_len]; omega)), ?_⟩
          refine ⟨_, _, rfl, (fx.trans (Fx.of ew)).trans Fx.put, ?_, ?_⟩
          · rw [upd_same, renP_put, hsucc]
            rfl
          · rw [hsucc]
            exact Nat.le_trans (put2_len _ _ _) (by omega)
      · obtain ⟨l4, l7, rfl, fx, hp2, hl2⟩ := hP
        rw [List.length_map, nz_len] at hp2 hl2
        rw [← Ls_succ he] at hp2 hl2
        have := ok.rlen e.1.2
        exact ⟨_, _, _, _, _, rfl, fx, hp2, by omega⟩
    · obtain ⟨l3, l4, l5, l6, l7, rfl, fx, hp, hln⟩ := hP
      rw [renP_len] at hp
      have hdF := fx _ _ (Ne.symm npd) hFd
      refine ⟨hdF, _, rfl, ?_⟩
      refine k p _ np (fun b o h => ?_) ?_
      · by_cases z : b = d
        · rw [z] at h ⊢
          rw [upd_same, ← h, hd]
        · rw [upd_ne z]
          exact fx _ _ (ne_of_none h np) (hFo _ _ z h)
      · rw [upd_ne npd, hp]
        unfold Ls
        rw [List.take_of_length_le (Nat.le_refl _)]
end
section
variable {P : Program} {w : World} {K : PySem.W.Frag} {mg : Str → Option Value} {base : Heap}
theorem asc_of {G : Grid} (ok : SiteOk G) : TF.Asc G := fun i => by
  unfold row
  rw [List.getD_eq_getElem?_getD]
  cases e : G[i]? with
  | none => exact List.Pairwise.nil
  | some r => exact ok.asc i r e
theorem nat_sum : ∀ l : List Nat, (l.map fun n : Nat => (n : Int)).sum = ((l.sum : Nat) : Int)
  | [] => rfl
  | a :: l => by rw [List.map_cons, List.sum_cons, List.sum_cons, nat_sum l, Int.natCast_add]
theorem kd_len : ∀ {L : TF.KD}, (∀ e ∈ L, 0 < e.2) → L.length ≤ (L.map (·.2)).sum
  | [], _ => Nat.le_refl _
  | e :: L, h => by
    have h1 := h e List.mem_cons_self
    have h2 := kd_len (L := L) fun e he => h e (List.mem_cons_of_mem _ he)
    rw [List.map_cons, List.sum_cons, List.length_cons]
    omega
/-- how many trails there are -/
def spCount : Sp := fun vs H Q _ => ∃ (s : Addr) (G : Grid) (p : Nat), vs = [.ref s, .int p] ∧ GridAt H s G ∧ SiteOk G ∧ p < G.length ∧ G.length ≤ 12 ∧ ∀ H', Ex H H' → Q (.int ((TF.all G p).length : Nat)) H'
def JCt (H : Hp) (s : Addr) (G : Grid) (p : Nat) (i : Nat) (σ' : L2.St) (H' : Hp) : Prop := ∃ d, σ' = [some (.ref s), some (.int p), some (.ref d), some (.int (TF.cum G p i : Nat))] ∧ Ex H H' ∧ H' d = some (.dT (renP (TF.dct G p i))) ∧ i ≤ G.length
theorem ok_count_trails (T : Txt K mg) : FnOk P w K mg base CX0 5 T.f_count_trails T.fd_count_trails ["site", "page"] spCount := by
  refine T.F_count_trails.ok sc_count_trails (fun vs H Q E h => ?_) (fun cdv A outer s H vs Q E hr h => ?_)
  · obtain ⟨s, G, p, rfl, _⟩ := h
    rfl
  · obtain ⟨s, G, p, rfl, hS, ok, hp, h6, k⟩ := h
    apply Exists.intro
    apply And.intro
    · apply pss_cons
      · exact (ps_expr (pe_call (ok_check_site T) (hr.mono (by decide)) (by rfl) T.m_check_site T.F_check_site.kp T.b_check_site .nil pass0 (pa_cons (pv 0) pa_nil)))
      apply pss_cons
      · exact (ps_expr (pe_call (ok_check_page T) (hr.mono (by decide)) (by rfl) T.m_check_page T.F_check_page.kp T.b_check_page .nil pass0 (pa_cons (pv 0) (pa_cons (pv 1) pa_nil))))
      apply pss_cons
      · exact (ps_par (i := 2) (j := 3) (by rfl) sc_count_trails.nd rfl rfl (by decide) rfl rfl (pa_cons (pe_dispT1 (hu_of hr) (pe_tup (pa_cons (pe_ix (k_ix_tup (K := K) rfl) (pe_glob (v := V.ref T.a_BITS) (by rfl) T.c_BITS rfl) (pv 1) (fun _ _ => rfl)) (pa_cons (pv 1) pa_nil))) pe_int) (pa_cons pe_int pa_nil)) (by rfl))
      apply pss_cons
      · apply ps_while PassesOwn.never
        · exact (pt_cmpR (op_neE hr.units) (pv 2) pe_dnewT (by rfl))
        · apply pss_cons
          · exact (ps_aug (i := 3) sc_count_trails.nd rfl (.inl rfl) (pe_callB (k_sum (K := K) rfl rfl) (by rfl) T.n_sum (by decide +kernel) (pa_cons (pe_valsT rfl (by rfl) T.n_list (pv 2)) pa_nil)) ip_add)
          apply pss_one
          exact (ps_set (i := 2) sc_count_trails.nd rfl (.inl rfl) (pe_call (ok_longer_ways T) (hr.mono (by decide)) (by rfl) T.m_longer_ways T.F_longer_ways.kp T.b_longer_ways .nil pass0 (pa_cons (pv 0) (pa_cons (pv 2) pa_nil))))
      apply pss_one
      exact (ps_ret (pv 3))
    walk_at "sx"
    refine ⟨s, G, rfl, hS, ok, fun H1 e1 => ?_⟩
    walk_at "sx"
    refine ⟨s, G, p, rfl, hS.ex e1, hp, ?_⟩
    walk_at "sx"
    intro d nd
    have ndH : H d = none := fresh_back e1 nd
    have e2 := Ex.new nd (o := .dT [])
    refine ixT (T.s_BITS.at _) (atI_n (j := p) (by rfl) (bit_at (by omega))) ?_
    refine ⟨by decide, fun w1 nw => ?_⟩
    have ew := Ex.new nw (o := .tup [V.int ((2 ^ p : Nat) : Int), V.int (p : Nat)])
    refine ⟨ky (2 ^ p, p), upd_same, ew _ _ upd_same, _, _, ⟨rfl, rfl⟩, ?_⟩
    have hd0 : (upd (upd (upd H1 d (HO.dT [])) w1 (HO.tup [V.int ((2 ^ p : Nat) : Int), V.int (p : Nat)])) d (HO.dT [(ky (2 ^ p, p), V.int 1)])) d = some (.dT (renP (TF.dct G p 0))) := upd_same
    have eW : Ex H (upd (upd (upd H1 d (HO.dT [])) w1 (HO.tup [V.int ((2 ^ p : Nat) : Int), V.int (p : Nat)])) d (HO.dT [(ky (2 ^ p, p), V.int 1)])) := ((e1.trans e2).trans ew).mut ndH
    generalize (upd (upd (upd H1 d (HO.dT [])) w1 (HO.tup [V.int ((2 ^ p : Nat) : Int), V.int (p : Nat)])) d (HO.dT [(ky (2 ^ p, p), V.int 1)])) = HW at hd0 eW ⊢
    refine ⟨fun m σ' H' => ∃ i, m = G.length - i ∧ JCt H s G p i σ' H', ⟨_, 0, rfl, d, rfl, eW, hd0, Nat.zero_le _⟩, fun m σ' H' hW => ?_⟩
    obtain ⟨i, rfl, d, rfl, e, hd, hi⟩ := hW
    have lr := TF.dct_ok ok hp i
    walk_at "sx"
    intro z nz1
    have ez := Ex.new nz1 (o := .dT [])
    refine ⟨d, z, _, rfl, rfl, ez _ _ hd, upd_same, ?_⟩
    have hd2 := ez _ _ hd
    have e3 := e.trans ez
    generalize upd H' z (.dT []) = H3 at hd2 e3 ⊢
    by_cases c : TF.lay G p i = []
    · rw [decide_eq_true ((renP_nil _).mpr (lr.empty.mpr c))]
      walk_at "sx"
      rw [TF.cum_end ok (asc_of ok) hp hi c]
      exact k _ e3
    · rw [decide_eq_false fun q => c (lr.empty.mp ((renP_nil _).mp q))]
      walk_at "sx"
      have hlt := TF.lay_lt ok hp c
      refine ⟨JCt H s G p (i + 1), fun σ' H' hJ => ⟨_, by omega, i + 1, rfl, hJ⟩, ?_⟩
      refine ⟨_, hd2, fun u nu => ?_⟩
      have eu := Ex.new nu (o := .lst ((renP (TF.dct G p i)).map (·.2)))
      refine sumL (ns := ((TF.dct G p i).map (·.2)).map fun n : Nat => (n : Int)) (.inl (.inl (by rw [upd_same, renP_vals]))) ?_
      rw [nat_sum, lr.one_all]
      have hd3 := eu _ _ hd2
      have e4 := e3.trans eu
      generalize upd H3 u (.lst ((renP (TF.dct G p i)).map (·.2))) = H4 at hd3 e4 ⊢
      walk_at "sx"
      have l1 := kd_len lr.pos
      rw [lr.one_all] at l1
      have l2 := BC.lr_len h6 lr (TF.lay_ok ok hp i)
      refine ⟨s, d, G, _, _, rfl, hS.ex e4, ok, hd3, lr, TF.lay_ok ok hp i, by omega, fun f H5 nf e5 hf => ?_⟩
      exact ⟨f, by rw [show ((TF.cum G p i : Nat) : Int) + (((TF.lay G p i).length : Nat) : Int) = ((TF.cum G p (i + 1) : Nat) : Int) from (Int.natCast_add _ _).symm], e4.trans e5, hf, hlt⟩
end
end LW
set_option Elab.async false
set_option linter.all false
set_option maxRecDepth 100000
set_option maxHeartbeats 4000000
namespace LW
open PySem PySem.Spec PyProof.Rows L2 BC Evl TR
local macro_rules | `(tactic| walk_at "sx") => `(tactic| try simp only [x_din, x_dnotin, x_iitemsT, x_dispT1, x_valsT, x_lockT, SL.x_yfor, SL.x_yplain, SL.x_ythen, SL.x_y0, SL.x_yyield, SL.x_ywhile, SL.x_callY, SL.x_callYK, x_gwhile, x_callG, x_g0, x_gfor, x_gplain, x_gthen, x_gyield, x_listG, x_dnewT, x_dget, x_dget2, x_dput, x_seq, x_next, x_brk, x_cnt, x_nev, x_ret, x_retN, x_drop, x_ifS, x_asg, x_gn, x_gsub, x_par, x_par3, x_aug, x_for, x_lc, x_rng1, x_rng2, x_rng3, x_ilist, x_itup, x_ienum, x_izip, x_izipA, x_istr, x_var, x_c, x_op, x_un, x_test, x_b, x_chain, x_and, x_or, x_not, x_andV, x_orV, x_notV, x_ife, x_nil, x_cons, x_lst, x_tup, x_cb, x_call, x_callK, x_bm, x_bm0, x_tru, x_sl, x_nopart, x_part, x_revL, x_I0, x_I, x_U, x_ip, x_ipC, x_eqI, x_neI, x_eqB, x_neB, x_eqS, x_neS, x_isB, x_isNB, x_lrg, x_gall, x_lenSet, x_augS, x_sortSet, x_rg1, x_rg2,
  L2.start, List.map_cons, List.map_nil, List.length_cons, List.length_nil, Nat.reduceAdd, Nat.reduceSub, Nat.sub_self, Nat.zero_add, List.replicate, List.replicate_succ, List.replicate_zero, List.append_nil, List.cons_append, List.nil_append, List.set_cons_zero, List.set_cons_succ, List.getElem?_cons_zero, List.getElem?_cons_succ, Option.some.injEq, V.int.injEq, V.bl.injEq, V.ref.injEq, V.str.injEq, List.cons.injEq, and_true, true_and, exists_eq_left', exists_eq_left, exists_and_left, exists_eq, if_true, if_false, ite_true, ite_false, Bool.true_eq_false, Bool.false_eq_true, reduceIte, reduceCtorEq, Bool.not_true, Bool.not_false, decide_true, decide_false, decide_eq_true_eq, Bool.and_true, Bool.true_and, Bool.and_self, Bool.and_false, Bool.false_and, Bool.or_self, Bool.or_false, Bool.false_or, Bool.or_true, Bool.true_or, eq_self])
section
variable {P : Program} {w : World} {K : PySem.W.Frag} {mg : Str → Option Value} {base : Heap}
/-- what waits before a turn, the next one first -/
def pend (G : Grid) (p i : Nat) : List (List Nat) := match (TF.all G p)[i]? with
  | some t => t :: TF.rest G t
  | none => []
theorem pend_zero (G : Grid) (p : Nat) : pend G p 0 = [[p]] := by
  unfold pend
  rw [TF.all_zero]
  rfl
theorem pend_at {G : Grid} {p i : Nat} {t : List Nat} (h : (TF.all G p)[i]? = some t) : pend G p i = t :: TF.rest G t := by
  unfold pend
  rw [h]
theorem pend_none {G : Grid} {p i : Nat} (h : (TF.all G p).length ≤ i) : pend G p i = [] := by
  unfold pend
  rw [List.getElem?_eq_none h]
theorem pend_next {G : Grid} (ok : SiteOk G) {p i : Nat} {t : List Nat} (hp : p < G.length) (h : (TF.all G p)[i]? = some t) : pend G p (i + 1) = TF.stk G t := by
  obtain ⟨okt, e⟩ := TF.all_next ok (asc_of ok) hp h
  unfold pend
  rw [e]
  unfold TF.nxt
  cases c : TF.stk G t with
  | nil => rfl
  | cons u R =>
    show u :: TF.rest G u = u :: R
    rw [TF.stk_head (asc_of ok) okt.ne c]
theorem grid_pop {H H' : Hp} {s : Addr} {F : Grid} {r : List Nat} (h : GridN H H' s (F ++ [r])) : ∃ (ps : List Addr) (p : Addr), H' s = some (.lst ((ps ++ [p]).map V.ref)) ∧ p ∉ ps ∧ p ≠ s ∧ H p = none ∧ H' p = some (.lst ((nz r).map V.int)) ∧ GridN H (upd H' s (.lst (ps.map V.ref))) s F := by
  obtain ⟨h0, qs, h1, h2, h4, h5, h3⟩ := h
  rw [List.length_append, List.length_singleton] at h2
  obtain ⟨ps, p, rfl⟩ : ∃ ps p, qs = ps ++ [p] := ⟨_, _, (List.dropLast_concat_getLast (fun z => by rw [z] at h2; simp at h2)).symm⟩
  rw [List.length_append, List.length_singleton] at h2
  have hl : ps.length = F.length := by omega
  obtain ⟨n1, _, n3⟩ := List.nodup_append.mp h4
  have hp := h3 ps.length p (by rw [List.getElem?_append_right (Nat.le_refl _), Nat.sub_self]; rfl)
  have hr : row (F ++ [r]) ps.length = r := by
    unfold row
    rw [List.getD_eq_getElem?_getD, hl, List.getElem?_append_right (Nat.le_refl _), Nat.sub_self]
    rfl
  rw [hr] at hp
  refine ⟨ps, p, h1, fun m => n3 p m p (List.mem_singleton.mpr rfl) rfl, fun z => h5 (by rw [← z]; simp), hp.1, hp.2, h0, ps, upd_same, hl, n1, fun m => h5 (List.mem_append_left _ m), fun i q e => ?_⟩
  have hi := (List.getElem?_eq_some_iff.mp e).1
  have h6 := h3 i q (by rw [List.getElem?_append_left hi]; exact e)
  have hr2 : row (F ++ [r]) i = row F i := by
    unfold row
    rw [List.getD_eq_getElem?_getD, List.getD_eq_getElem?_getD, List.getElem?_append_left (by omega)]
  rw [hr2] at h6
  exact ⟨h6.1, by rw [upd_ne (fun z => h5 (by rw [← z]; exact List.mem_append_left _ (List.mem_of_getElem? e)))]; exact h6.2⟩
theorem lc_listT {σ : L2.St} {H1 : Hp} {g : TG} {tt : TT} {te : TE} {vs : List Nat} {Dl : Addr} {Q : VK} {a : Addr} {xs : List V} (Pv : Nat → Hp → Prop) (h0 : Pv 0 (upd H1 Dl (.lst []))) (hl : ∀ i H, i ≤ xs.length → Pv i H → SqL K H a xs)
    (hs : ∀ i x H, xs[i]? = some x → Pv i H → g x (wipe σ vs) H fun σ2 H2 => wipe σ2 vs = wipe σ vs ∧ tt σ2 H2 fun b H3 => if b = true then te σ2 H3 fun y H4 => ∃ acc, H4 Dl = some (.lst acc) ∧ acc.length < sizeLine ∧ Pv (i + 1) (upd H4 Dl (.lst (acc ++ [y]))) else Pv (i + 1) H3)
    (hd : ∀ H, Pv xs.length H → Q (.ref Dl) H) : LcG (Itl K a) g tt te vs σ Dl H1 Q := by
  refine lc_g xs.length Pv h0 (fun H h => ⟨xs, hl _ H (Nat.le_refl _) h, Nat.le_refl _⟩) (fun i H hi h => ⟨xs, xs[i], hl i H (by omega) h, List.getElem?_eq_getElem hi⟩) (fun i H x H' hi h y => ?_) hd
  obtain ⟨rfl, hf⟩ := y
  exact hs i x _ (hf xs (hl i _ (by omega) h)) h
theorem all_small {G : Grid} (ok : SiteOk G) {p : Nat} (hp : p < G.length) (h6 : G.length ≤ 12) : (TF.all G p).length ≤ 108505112 := by
  rw [TF.all_len ok (asc_of ok) hp]
  exact TF.big_le ok (asc_of ok) 11 (TF.one_ok hp) (by rw [List.length_singleton]; omega)
theorem rest_len {G : Grid} (hr : ∀ i, (row G i).length ≤ 12) : ∀ (n : Nat) {t : List Nat}, t.length ≤ n → (TF.rest G t).length ≤ 12 * n
  | 0, t, hn => by
    have : t = [] := List.length_eq_zero_iff.mp (by omega)
    subst this
    exact Nat.le_refl _
  | n + 1, t, hn => by
    by_cases ht : t = []
    · subst ht; exact Nat.zero_le _
    obtain ⟨q, x, rfl⟩ : ∃ q x, t = q ++ [x] := ⟨_, _, (List.dropLast_concat_getLast ht).symm⟩
    rw [List.length_append, List.length_singleton] at hn
    by_cases hq : q = []
    · subst hq; exact Nat.zero_le _
    rw [TF.rest_snoc hq, List.length_append, List.length_map]
    have h1 := rest_len hr n (t := q) (by omega)
    have h2 : (TF.later G q x).length ≤ (row G (lst q)).length := List.length_filter_le _ _
    have h3 := hr (lst q)
    omega
def PvL (HA : Hp) (D : Addr) (G : Grid) (i : Nat) (H : Hp) : Prop := Ex HA H ∧ GridN HA H D (G.take i)
def PvK (HA : Hp) (D : Addr) (G : Grid) (t : List Nat) (i : Nat) (H : Hp) : Prop := Ex HA H ∧ GridN HA H D ((((row G (lst t)).reverse.take i).filter fun u => decide (u ∉ t)).map fun u => t ++ [u])
theorem last_nz {t : List Nat} (h : t ≠ []) : ((nz t).map V.int)[((nz t).map V.int).length - 1]? = some (.int (lst t : Nat)) := by
  rw [List.length_map, nz_len]
  refine nz_at ?_
  rw [← List.getLast?_eq_getElem?]
  unfold lst
  cases c : t.getLast? with
  | none => exact absurd (List.getLast?_eq_none_iff.mp c) h
  | some y => rfl
theorem lst_lt {G : Grid} {t : List Nat} (h : TF.TrOk G t) : lst t < G.length := by
  unfold lst
  cases c : t.getLast? with
  | none => exact absurd (List.getLast?_eq_none_iff.mp c) h.ne
  | some y => exact h.lt y (List.mem_of_getLast? c)
theorem kid_step {t rr : List Nat} {u x : Nat} (h : rr[u]? = some x) : ((rr.take (u + 1)).filter fun v => decide (v ∉ t)).map (fun v => t ++ [v]) = ((rr.take u).filter fun v => decide (v ∉ t)).map (fun v => t ++ [v]) ++ (if x ∈ t then [] else [t ++ [x]]) := by
  rw [List.take_add_one, h, List.filter_append, List.map_append]
  congr 1
  by_cases c : x ∈ t
  · simp [c]
  · simp [c]
theorem rows_rev (l : List Nat) : ((nz l).map V.int).reverse = (nz l.reverse).map V.int := by
  unfold nz
  rw [← List.map_reverse, ← List.map_reverse]
theorem pend_rev {G : Grid} (ok : SiteOk G) {p i : Nat} {t : List Nat} (hp : p < G.length) (h : (TF.all G p)[i]? = some t) :
    (TF.rest G t).reverse ++ (((row G (lst t)).reverse.take ((nz (row G (lst t)).reverse).map V.int).length).filter fun u => decide (u ∉ t)).map (fun u => t ++ [u]) = (pend G p (i + 1)).reverse := by
  rw [pend_next ok hp h, List.length_map, nz_len, List.take_of_length_le (Nat.le_refl _), List.filter_reverse]
  unfold TF.stk
  rw [List.reverse_append, List.map_reverse]
  rfl
end
end LW
set_option Elab.async false
set_option linter.all false
set_option maxRecDepth 100000
set_option maxHeartbeats 4000000
namespace LW
open PySem PySem.Spec PyProof.Rows L2 BC Evl TR
local macro_rules | `(tactic| walk_at "sx") => `(tactic| try simp only [x_din, x_dnotin, x_iitemsT, x_dispT1, x_valsT, x_lockT, SL.x_yfor, SL.x_yplain, SL.x_ythen, SL.x_y0, SL.x_yyield, SL.x_ywhile, SL.x_callY, SL.x_callYK, x_gwhile, x_callG, x_g0, x_gfor, x_gplain, x_gthen, x_gyield, x_listG, x_dnewT, x_dget, x_dget2, x_dput, x_seq, x_next, x_brk, x_cnt, x_nev, x_ret, x_retN, x_drop, x_ifS, x_asg, x_gn, x_gsub, x_par, x_par3, x_aug, x_for, x_lc, x_rng1, x_rng2, x_rng3, x_ilist, x_itup, x_ienum, x_izip, x_izipA, x_istr, x_var, x_c, x_op, x_un, x_test, x_b, x_chain, x_and, x_or, x_not, x_andV, x_orV, x_notV, x_ife, x_nil, x_cons, x_lst, x_tup, x_cb, x_call, x_callK, x_bm, x_bm0, x_tru, x_sl, x_nopart, x_part, x_revL, x_I0, x_I, x_U, x_ip, x_ipC, x_eqI, x_neI, x_eqB, x_neB, x_eqS, x_neS, x_isB, x_isNB, x_lrg, x_gall, x_lenSet, x_augS, x_sortSet, x_rg1, x_rg2,
  L2.start, List.map_cons, List.map_nil, List.length_cons, List.length_nil, Nat.reduceAdd, Nat.reduceSub, Nat.sub_self, Nat.zero_add, List.replicate, List.replicate_succ, List.replicate_zero, List.append_nil, List.cons_append, List.nil_append, List.set_cons_zero, List.set_cons_succ, List.getElem?_cons_zero, List.getElem?_cons_succ, Option.some.injEq, V.int.injEq, V.bl.injEq, V.ref.injEq, V.str.injEq, List.cons.injEq, and_true, true_and, exists_eq_left', exists_eq_left, exists_and_left, exists_eq, if_true, if_false, ite_true, ite_false, Bool.true_eq_false, Bool.false_eq_true, reduceIte, reduceCtorEq, Bool.not_true, Bool.not_false, decide_true, decide_false, decide_eq_true_eq, Bool.and_true, Bool.true_and, Bool.and_self, Bool.and_false, Bool.false_and, Bool.or_self, Bool.or_false, Bool.false_or, Bool.or_true, Bool.true_or, eq_self])
section
variable {P : Program} {w : World} {K : PySem.W.Frag} {mg : Str → Option Value} {base : Heap}
/-- what a turn keeps: what stood at the call, and what is no list of objects -/
def Kept (H Hr H1 : Hp) : Prop := ∀ b o, Hr b = some o → (H b ≠ none ∨ ∀ F : List Addr, o ≠ .lst (F.map V.ref)) → H1 b = some o
theorem Kept.of {H Hr H1 : Hp} (e : Ex Hr H1) : Kept H Hr H1 := fun b o h _ => e b o h
theorem Kept.ex {H Hr H1 H2 : Hp} (k : Kept H Hr H1) (e : Ex H1 H2) : Kept H Hr H2 := fun b o h c => e _ _ (k b o h c)
theorem Kept.mut {H Hr H1 : Hp} {a : Addr} {F : List Addr} {o : HO} (k : Kept H Hr H1) (n : H a = none) (h : H1 a = some (.lst (F.map V.ref))) : Kept H Hr (upd H1 a o) := fun b u e c => by
  have q := k b u e c
  by_cases z : b = a
  · subst z
    rw [h] at q
    rcases c with c | c
    · exact (c n).elim
    · exact (c F (Option.some.inj q).symm).elim
  · rw [upd_ne z]; exact q
/-- .. to any consumer -/
def spTrfY (K : PySem.W.Frag) : SL.SpY := fun vs H yl z => ∃ (s : Addr) (G : Grid) (p : Nat), vs = [.ref s, .int p] ∧ GridAt H s G ∧ SiteOk G ∧ p < G.length ∧ G.length ≤ 12 ∧
  (∀ (i : Nat) (t : List Nat) (Hr H1 Kp : Hp) (q : Addr), (TF.all G p)[i]? = some t → Kept H Hr H1 → H q = none → H1 q = some (.lst ((nz t).map V.int)) → Ex Kp H1 → (∀ b o, Kp b = some o → H b = none ∧ b ≠ q) → yl i Hr (.ref q) H1 Kp) ∧
  ∀ Hr H1, Kept H Hr H1 → z (TF.all G p).length Hr H1
theorem grid_pop2 {H H' : Hp} {s : Addr} {F : Grid} {r : List Nat} (h : GridN H H' s (F ++ [r])) : ∃ (ps : List Addr) (p : Addr), H' s = some (.lst ((ps ++ [p]).map V.ref)) ∧ p ≠ s ∧ H p = none ∧ H' p = some (.lst ((nz r).map V.int)) ∧ GridN (upd H p (.lst [])) (upd H' s (.lst (ps.map V.ref))) s F := by
  have h' := h
  obtain ⟨h0, qs, h1, h2, h4, h5, h3⟩ := h
  obtain ⟨ps, p, e1, e2, e3, e4, e5, g0, ps2, g1, g2, g3, g4, g5⟩ := grid_pop h'
  have : ps2 = ps := by
    rw [upd_same] at g1
    have := HO.lst.inj (Option.some.inj g1)
    have q : ps = ps2 := by
      have inj : ∀ {a b : List Addr}, a.map V.ref = b.map V.ref → a = b := fun {a b} h => by
        induction a generalizing b with
        | nil => cases b with
          | nil => rfl
          | cons _ _ => cases h
        | cons x a ih => cases b with
          | nil => cases h
          | cons y b =>
            rw [List.map_cons, List.map_cons] at h
            obtain ⟨h1, h2⟩ := List.cons.inj h
            rw [V.ref.inj h1, ih h2]
      exact inj this
    exact q.symm
  subst this
  refine ⟨ps2, p, e1, e3, e4, e5, by rw [upd_ne (Ne.symm e3)]; exact g0, ps2, g1, g2, g3, g4, fun i q e => ?_⟩
  obtain ⟨a, b⟩ := g5 i q e
  exact ⟨by rw [upd_ne fun z => e2 (by rw [← z]; exact List.mem_of_getElem? e)]; exact a, b⟩
def JTy (H H2 : Hp) (s : Addr) (G : Grid) (p : Nat) (lk wt : Addr) (ls : List Addr) (i : Nat) (Hr : Hp) (σ' : L2.St) (H' : Hp) : Prop := ∃ l4, σ' = [some (.ref s), some (.int p), some (.ref lk), some (.ref wt), l4, none, none] ∧ i ≤ (TF.all G p).length ∧ SL.Dom H2 H' ∧ Kept H Hr H' ∧ H' lk = some (.lst (ls.map V.ref)) ∧
  (∀ j r, ls[j]? = some r → H' r = some (.lst ((nz (row G j)).map V.int))) ∧ GridN H2 H' wt (pend G p i).reverse
theorem okY_trails_from (T : Txt K mg) : SL.GFnY P w K mg base 5 T.f_trails_from T.fd_trails_from ["site", "page"] (spTrfY K) := by
  refine SL.Fun.yok T.F_trails_from sc_trails_from (fun vs H yl z h => ?_) (fun cdv A outer s H vs yl z pn hr h => ?_)
  · obtain ⟨s, G, p, rfl, _⟩ := h
    rfl
  · obtain ⟨s, G, p, rfl, hS, ok, hp, h6, k, kz⟩ := h
    apply Exists.intro
    apply And.intro
    · exact (SL.yss_cons (SL.ys_ps fun _ _ => (ps_expr (pe_call (ok_check_site T) (hr.mono (by decide)) (by rfl) T.m_check_site T.F_check_site.kp T.b_check_site .nil pass0 (pa_cons (pv 0) pa_nil)))) (SL.yss_cons (SL.ys_ps fun _ _ => (ps_expr (pe_call (ok_check_page T) (hr.mono (by decide)) (by rfl) T.m_check_page T.F_check_page.kp T.b_check_page .nil pass0 (pa_cons (pv 0) (pa_cons (pv 1) pa_nil))))) (SL.yss_cons (SL.ys_ps fun _ _ => (ps_setLc (i := 2) (own := [("row", 5)]) rfl sc_trails_from.nd rfl rfl (sw_true rfl rfl rfl (by decide +kernel)) (k_pi_list (K := K) rfl (pv 0)) (blkOk_by (own := [("row", 5)]) (N := ["site", "page", "links", "waiting", "trail", "row", "other"]) (sc := defScope s_trails_from) (by decide +kernel)) (fun _ _ _ _ _ => by exact (pg_name (i := 5) sc_trails_from.nd rfl (.inl rfl))) (fun _ _ _ _ _ => by exact pts_nil) (fun _ _ _ _ _ => by exact (pe_callTy (k_listOf (K := K) rfl) (by rfl) T.n_list (by decide +kernel) (pa_cons (pv 5) pa_nil))))) (SL.yss_cons (SL.ys_ps fun _ _ => (ps_set (i := 3) sc_trails_from.nd rfl (.inl rfl) (pe_lst (pa_cons (pe_lst (pa_cons (pv 1) pa_nil)) pa_nil)))) (SL.yss_cons (SL.ys_while (fun _ _ => (pt_cmpR (k_neD (K := K) rfl hr.units) (pv 3) (pe_lst pa_nil) (by rfl))) (SL.yss_cons (SL.ys_ps fun _ _ => (ps_set (i := 4) sc_trails_from.nd rfl (.inr rfl) (k_bm0 (K := K) rfl (pe_bm0 PySem.F.plainAttrs_list PySem.F.slot_list_pop PySem.F.type_list_pop mt_pop (pv 3))))) (SL.yss_cons (SL.ys_ps fun _ _ => (ps_expr (k_bm (K := K) rfl (pe_bm PySem.F.plainAttrs_list PySem.F.slot_list_extend PySem.F.type_list_extend mt_extend (pv 3) (pa_cons (pe_lc (own := [("other", 6)]) rfl sc_trails_from.nd (k_pi_list (K := K) rfl (k_rev (K := K) rfl (pe_ix (k_ix_list (K := K) rfl) (pv 2) (pe_ix (k_ix_list (K := K) rfl) (pv 4) (pe_un un_neg pe_int) (fun _ _ => rfl)) (fun _ _ => rfl)))) (blkOk_by (own := [("other", 6)]) (N := ["site", "page", "links", "waiting", "trail", "row", "other"]) (sc := defScope s_trails_from) (by decide +kernel)) (fun _ _ _ _ _ => by exact (pg_name (i := 6) sc_trails_from.nd rfl (.inl rfl))) (fun _ _ _ _ _ => by exact (pts_one (pt_cmpR (k_notIn (K := K) rfl) (pv 6) (pv 4) (by rfl)))) (fun _ _ _ _ _ => by exact (pe_op op_cat (pv 4) (pe_lst (pa_cons (pv 6) pa_nil))))) pa_nil))))) (SL.yss_cons (SL.ys_yield (ws := [4]) (SL.cellsIn_by (by decide +kernel)) fun _ _ => (pv 4)) SL.yss_nil)))) SL.yss_nil)))))

    walk_at "sx"
    refine ⟨s, G, rfl, hS, ok, fun H1 e1 => ?_⟩
    walk_at "sx"
    refine ⟨s, G, p, rfl, hS.ex e1, hp, ?_⟩
    walk_at "sx"
    have n2 := ok.n2
    obtain ⟨xs, hs, hl, hrow⟩ := (hS.ex e1).lst
    refine ⟨⟨_, .inl (.inl hs)⟩, fun lk nlk => ?_⟩
    refine lc_listE (xs := xs) (PvL H1 lk G) ⟨Ex.new nlk, GridN.nil nlk⟩ (fun i H' _ hP => .inl (.inl (hP.1 _ _ hs))) (fun i x H' hx hP => ?_) (fun H2 hP => ?_)
    · obtain ⟨eP, gP⟩ := hP
      obtain ⟨hi, q, rfl, hq⟩ := hrow i x hx
      refine ⟨rfl, ?_⟩
      simp only [wipe, List.set_cons_zero, List.set_cons_succ]
      walk_at "sx"
      refine ⟨q, _, rfl, .inl (.inl (.inl (eP _ _ hq))), fun c nc => ?_⟩
      have ec := Ex.new nc (o := .lst ((nz (row G i)).map V.int))
      obtain ⟨ys, h1, h2, g2⟩ := gP.push (r := row G i) (fresh_back eP nc) nc (Nw.of ec) upd_same
      refine ⟨ys, h1, BC.sz_lt (by rw [h2, List.length_take]; omega), (eP.trans ec).mut nlk, ?_⟩
      rw [List.take_add_one, at_row hi]
      exact g2
    obtain ⟨e2, gl⟩ := hP
    rw [hl, List.take_of_length_le (Nat.le_refl _)] at gl
    refine ⟨sz_ok (by omega), fun q0 nq0 => ⟨sz_ok (by omega), fun wt nwt => ?_⟩⟩
    have eq0 := Ex.new nq0 (o := .lst [V.int (p : Nat)])
    have ewt := Ex.new nwt (o := .lst [V.ref q0])
    have hq0 := ewt _ _ (upd_same (H := H2) (a := q0) (o := .lst [V.int (p : Nat)]))
    have nwt2 : H2 wt = none := fresh_back eq0 nwt
    have nqw : q0 ≠ wt := ne_of_none (upd_same (H := H2) (a := q0) (o := .lst [V.int (p : Nat)])) nwt
    have g0 : GridN H2 (upd (upd H2 q0 (.lst [V.int (p : Nat)])) wt (.lst [V.ref q0])) wt (pend G p 0).reverse := by
      rw [pend_zero]
      refine ⟨nwt2, [q0], upd_same, rfl, by simp, by simpa using Ne.symm nqw, fun i q e => ?_⟩
      match i, e with
      | 0, e => cases e; exact ⟨nq0, hq0⟩
    have e3 := eq0.trans ewt
    have EH2 : Ex H H2 := e1.trans e2
    obtain ⟨nlk1, ls, hlk, lsl, _, _, hls⟩ := gl.back e1
    generalize (upd (upd H2 q0 (.lst [V.int (p : Nat)])) wt (.lst [V.ref q0])) = H3 at g0 e3 ⊢
    refine ⟨fun m i Hr σ' H' => m = (TF.all G p).length - i ∧ JTy H H2 s G p lk wt ls i Hr σ' H', ⟨_, rfl, none, rfl, Nat.zero_le _, SL.Dom.of e3, Kept.of (EH2.trans e3), e3 _ _ hlk, fun j r h => e3 _ _ (hls j r h).2, g0⟩, fun m i Hr σ' H' hW => ?_⟩
    obtain ⟨rfl, l4, rfl, hin, dm, er, hlk', hls', gw⟩ := hW
    refine ⟨_, rfl, Nat.zero_le _, fun z nz1 => ?_⟩
    have ez := Ex.new nz1 (o := .lst [])
    refine neGrid (gw.at.ex ez) (G := []) ⟨[], upd_same, rfl, by simp⟩ ?_
    have gw2 := gw.ex ez
    have er4 := er.ex ez
    have dm4 := dm.trans (SL.Dom.of ez)
    have hlk4 := ez _ _ hlk'
    have hls4 : ∀ j r, ls[j]? = some r → upd H' z (.lst []) r = some (.lst ((nz (row G j)).map V.int)) := fun j r h => ez _ _ (hls' j r h)
    generalize upd H' z (.lst []) = H4 at gw2 er4 dm4 hlk4 hls4 ⊢
    by_cases c : i < (TF.all G p).length
    · obtain ⟨t, ht⟩ : ∃ t, (TF.all G p)[i]? = some t := ⟨_, List.getElem?_eq_getElem c⟩
      obtain ⟨okt, hnx⟩ := TF.all_next ok (asc_of ok) hp ht
      rw [pend_at ht, List.reverse_cons] at gw2 ⊢
      rw [decide_eq_false (by simp)]
      refine ⟨_, rfl, ?_⟩
      rw [if_pos (by rfl)]
      refine ⟨fun i' Hr' σ' H' => i' = i + 1 ∧ JTy H H2 s G p lk wt ls (i + 1) Hr' σ' H', fun i' Hr' σ' H' hJ => ⟨(TF.all G p).length - (i + 1), by omega, by rw [hJ.1], by rw [hJ.1]; exact hJ.2⟩, ?_⟩
      obtain ⟨ps, q, hw, nqw1, nq, hq, gp⟩ := grid_pop2 gw2
      refine ⟨_, rfl, tyL hw, wt, _, .ref q, rfl, rfl, hw, by rw [List.length_map, List.length_append, List.length_singleton, Nat.add_sub_cancel, List.getElem?_map, List.getElem?_append_right (Nat.le_refl _), Nat.sub_self]; rfl, ?_⟩
      rw [List.map_append, List.map_singleton, List.dropLast_concat]
      have nwtH : H wt = none := fresh_back EH2 nwt2
      have hlw : lk ≠ wt := ne_of_none hlk nwt2
      have hlsw : ∀ j r, ls[j]? = some r → r ≠ wt := fun j r h => ne_of_none (hls j r h).2 nwt2
      have er5 := er4.mut (o := .lst (ps.map V.ref)) nwtH hw
      have dm5 := dm4.trans (SL.Dom.put (p := wt) (o := .lst (ps.map V.ref)) (H := H4))
      have hq5 : (upd H4 wt (.lst (ps.map V.ref))) q = some (.lst ((nz t).map V.int)) := by rw [upd_ne nqw1]; exact hq
      have hlk5 : (upd H4 wt (.lst (ps.map V.ref))) lk = some (.lst (ls.map V.ref)) := by rw [upd_ne hlw]; exact hlk4
      have hls5 : ∀ j r, ls[j]? = some r → (upd H4 wt (.lst (ps.map V.ref))) r = some (.lst ((nz (row G j)).map V.int)) := fun j r h => by rw [upd_ne (hlsw j r h)]; exact hls4 j r h
      have hw5 : (upd H4 wt (.lst (ps.map V.ref))) wt = some (.lst (ps.map V.ref)) := upd_same
      generalize upd H4 wt (.lst (ps.map V.ref)) = H5 at er5 dm5 hq5 hlk5 hls5 gp hw5 ⊢
      have hlt := lst_lt okt
      obtain ⟨rp, hrp⟩ : ∃ rp, ls[lst t]? = some rp := ⟨_, List.getElem?_eq_getElem (by omega)⟩
      refine ⟨_, rfl, tyL hw5, _, rfl, _, rfl, ixL (.inl (.inl hq5)) (atI_last (last_nz okt.ne)) (ixL (.inl (.inl hlk5)) (atI_n (j := lst t) (by rfl) (by rw [List.getElem?_map, hrp]; rfl)) ⟨rp, rfl, _, .inl (.inl (hls5 _ _ hrp)), fun rv nrv => ?_⟩)⟩
      rw [rows_rev]
      have erv := Ex.new nrv (o := .lst ((nz (row G (lst t)).reverse).map V.int))
      have hrv : (upd H5 rv (.lst ((nz (row G (lst t)).reverse).map V.int))) rv = some (.lst ((nz (row G (lst t)).reverse).map V.int)) := upd_same
      have er6 := er5.ex erv
      have dm6 := dm5.trans (SL.Dom.of erv)
      have hq6 := erv _ _ hq5
      have hw6 := erv _ _ hw5
      have hlk6 := erv _ _ hlk5
      have gp6 := gp.ex erv
      have hls6 : ∀ j r, ls[j]? = some r → (upd H5 rv (.lst ((nz (row G (lst t)).reverse).map V.int))) r = some (.lst ((nz (row G j)).map V.int)) := fun j r h => erv _ _ (hls5 j r h)
      generalize upd H5 rv (.lst ((nz (row G (lst t)).reverse).map V.int)) = H6 at hrv er6 dm6 hq6 hw6 hlk6 gp6 hls6 ⊢
      refine ⟨⟨_, .inl (.inl hrv)⟩, fun D nD => ?_⟩
      simp only [List.set_cons_zero, List.set_cons_succ]
      have l12 := ok.rlen (lst t)
      have t12 := okt.len
      refine lc_listT (xs := (nz (row G (lst t)).reverse).map V.int) (PvK H6 D G t) ⟨Ex.new nD, GridN.nil nD⟩ (fun u H' _ hP => .inl (.inl (hP.1 _ _ hrv))) (fun u x H' hx hP => ?_) (fun H7 hP => ?_)
      · obtain ⟨eP, gP⟩ := hP
        obtain ⟨x, hx', rfl⟩ := at_nz hx
        have hu := (List.getElem?_eq_some_iff.mp hx').1
        rw [List.length_reverse] at hu
        refine ⟨rfl, ?_⟩
        simp only [wipe, List.set_cons_zero, List.set_cons_succ]
        walk_at "sx"
        refine ninL (.inl (.inl (eP _ _ hq6))) ?_
        refine ⟨_, rfl, ?_⟩
        by_cases cx : x ∈ t
        · rw [decide_eq_true (nz_mem.mpr cx), if_neg (by decide)]
          refine ⟨eP, ?_⟩
          rw [kid_step hx', if_pos cx, List.append_nil]
          exact gP
        · rw [decide_eq_false fun m => cx (nz_mem.mp m), if_pos (by decide)]
          refine ⟨sz_ok (by omega), fun y ny => ?_⟩
          have ey := Ex.new ny (o := .lst [V.int (x : Nat)])
          refine catL ((eP.trans ey) _ _ hq6) upd_same (sz_ok (by rw [List.length_map, nz_len]; simp; omega)) fun b nb => ?_
          have eb := Ex.new nb (o := .lst ((nz t).map V.int ++ [V.int (x : Nat)]))
          have hb : (upd (upd H' y (.lst [V.int (x : Nat)])) b (.lst ((nz t).map V.int ++ [V.int (x : Nat)]))) b = some (.lst ((nz (t ++ [x])).map V.int)) := by
            rw [upd_same, TF.nz_append, List.map_append]
            rfl
          obtain ⟨ys, h1, h2, g2⟩ := gP.push (r := t ++ [x]) (fresh_back eP (fresh_back ey nb)) (fresh_back ey nb) (Nw.of (ey.trans eb)) hb
          refine ⟨ys, h1, BC.sz_lt ?_, ((eP.trans ey).trans eb).mut nD, ?_⟩
          · rw [h2, List.length_map]
            have f1 := List.length_filter_le (fun v => decide (v ∉ t)) ((row G (lst t)).reverse.take u)
            rw [List.length_take, List.length_reverse] at f1
            omega
          · rw [kid_step hx', if_neg cx]
            exact g2
      · obtain ⟨e7, gD⟩ := hP
        have low : ∀ b, H6 b = none → upd H2 q (.lst []) b = none := fun b nb => by
          rw [upd_ne (fun z => by rw [z, hq6] at nb; cases nb)]
          exact dm6.none nb
        obtain ⟨xs7, zs7, k1, k2, k3, k4, gw7⟩ := gp6.ext gD e7 low
        rw [pend_rev ok hp ht] at gw7
        have a1 := all_small ok hp h6
        refine ⟨wt, D, xs7, zs7, rfl, rfl, k1, k2, sz_ok ?_, (by unfold SL.genLine; omega), _, rfl, ?_⟩
        · rw [k3, k4, List.length_reverse, List.length_map]
          have r1 := rest_len ok.rlen t.length (t := t) (Nat.le_refl _)
          have f1 := List.length_filter_le (fun v => decide (v ∉ t)) ((row G (lst t)).reverse.take ((nz (row G (lst t)).reverse).map V.int).length)
          rw [List.length_take, List.length_reverse] at f1
          omega
        have er8 : Kept H Hr (upd H7 wt (.lst (xs7 ++ zs7))) := (er6.ex e7).mut nwtH (e7 _ _ hw6)
        have hq8 : (upd H7 wt (.lst (xs7 ++ zs7))) q = some (.lst ((nz t).map V.int)) := by rw [upd_ne nqw1]; exact e7 _ _ hq6
        have hlk8 : (upd H7 wt (.lst (xs7 ++ zs7))) lk = some (.lst (ls.map V.ref)) := by rw [upd_ne hlw]; exact e7 _ _ hlk6
        have hls8 : ∀ j r, ls[j]? = some r → (upd H7 wt (.lst (xs7 ++ zs7))) r = some (.lst ((nz (row G j)).map V.int)) := fun j r h => by rw [upd_ne (hlsw j r h)]; exact e7 _ _ (hls6 j r h)
        have dm8 : SL.Dom H2 (upd H7 wt (.lst (xs7 ++ zs7))) := (dm6.trans (SL.Dom.of e7)).trans SL.Dom.put
        generalize upd H7 wt (.lst (xs7 ++ zs7)) = H8 at er8 hq8 hlk8 hls8 dm8 gw7 ⊢
        obtain ⟨w0, ps8, w1, w2, w3, w4, w5⟩ := gw7
        have nqb : ∀ b o, H2 b = some o → b ≠ q := fun b o e => ne_of_none e nq
        refine ⟨SL.part (lk :: ls ++ wt :: ps8) H8, k i t Hr H8 _ q ht er8 (fresh_back EH2 nq) hq8 SL.part_ex (fun b o hb => ?_), fun H9 ek dk => ⟨trivial, none, rfl, c, dm8.trans dk, Kept.of (Ex.refl _), ek _ _ (SL.part_at (by simp) hlk8), fun j r h => ek _ _ (SL.part_at (by have := List.mem_of_getElem? h; simp [this]) (hls8 j r h)), nwt2, ps8, ek _ _ (SL.part_at (by simp) w1), w2, w3, w4, fun j r h => ?_⟩⟩
        · obtain ⟨m, _⟩ := SL.of_part hb
          rcases List.mem_append.mp m with m | m
          · rcases List.mem_cons.mp m with rfl | m
            · exact ⟨nlk1, nqb _ _ hlk⟩
            · obtain ⟨j, hj, ej⟩ := List.getElem_of_mem m
              obtain ⟨g1, g2⟩ := hls j b (List.getElem?_eq_some_iff.mpr ⟨hj, ej⟩)
              exact ⟨g1, nqb _ _ g2⟩
          · rcases List.mem_cons.mp m with rfl | m
            · exact ⟨nwtH, Ne.symm nqw1⟩
            · obtain ⟨j, hj, ej⟩ := List.getElem_of_mem m
              have g1 := (w5 j b (List.getElem?_eq_some_iff.mpr ⟨hj, ej⟩)).1
              have nbq : b ≠ q := fun z => by rw [z, upd_same] at g1; cases g1
              rw [upd_ne nbq] at g1
              exact ⟨fresh_back EH2 g1, nbq⟩
        · obtain ⟨g1, g2⟩ := w5 j r h
          have nbq : r ≠ q := fun z => by rw [z, upd_same] at g1; cases g1
          rw [upd_ne nbq] at g1
          exact ⟨g1, ek _ _ (SL.part_at (by have := List.mem_of_getElem? h; simp [this]) g2)⟩
    · rw [pend_none (by omega)]
      rw [decide_eq_true (by rfl)]
      refine ⟨_, rfl, ?_⟩
      rw [if_neg (by decide)]
      have hi : i = (TF.all G p).length := by omega
      rw [hi]
      exact kz _ _ er4
end
end LW
set_option Elab.async false
set_option linter.all false
set_option maxRecDepth 100000
set_option maxHeartbeats 4000000
namespace LW
open PySem PySem.Spec PyProof.Rows L2 BC Evl TR
local macro_rules | `(tactic| walk_at "sx") => `(tactic| try simp only [x_din, x_dnotin, x_iitemsT, x_dispT1, x_valsT, x_lockT, SL.x_yfor, SL.x_yplain, SL.x_ythen, SL.x_y0, SL.x_yyield, SL.x_ywhile, SL.x_callY, SL.x_callYK, x_gwhile, x_callG, x_g0, x_gfor, x_gplain, x_gthen, x_gyield, x_listG, x_dnewT, x_dget, x_dget2, x_dput, x_seq, x_next, x_brk, x_cnt, x_nev, x_ret, x_retN, x_drop, x_ifS, x_asg, x_gn, x_gsub, x_par, x_par3, x_aug, x_for, x_lc, x_rng1, x_rng2, x_rng3, x_ilist, x_itup, x_ienum, x_izip, x_izipA, x_istr, x_var, x_c, x_op, x_un, x_test, x_b, x_chain, x_and, x_or, x_not, x_andV, x_orV, x_notV, x_ife, x_nil, x_cons, x_lst, x_tup, x_cb, x_call, x_callK, x_bm, x_bm0, x_tru, x_sl, x_nopart, x_part, x_revL, x_I0, x_I, x_U, x_ip, x_ipC, x_eqI, x_neI, x_eqB, x_neB, x_eqS, x_neS, x_isB, x_isNB, x_lrg, x_gall, x_lenSet, x_augS, x_sortSet, x_rg1, x_rg2,
  L2.start, List.map_cons, List.map_nil, List.length_cons, List.length_nil, Nat.reduceAdd, Nat.reduceSub, Nat.sub_self, Nat.zero_add, List.replicate, List.replicate_succ, List.replicate_zero, List.append_nil, List.cons_append, List.nil_append, List.set_cons_zero, List.set_cons_succ, List.getElem?_cons_zero, List.getElem?_cons_succ, Option.some.injEq, V.int.injEq, V.bl.injEq, V.ref.injEq, V.str.injEq, List.cons.injEq, and_true, true_and, exists_eq_left', exists_eq_left, exists_and_left, exists_eq, if_true, if_false, ite_true, ite_false, Bool.true_eq_false, Bool.false_eq_true, reduceIte, reduceCtorEq, Bool.not_true, Bool.not_false, decide_true, decide_false, decide_eq_true_eq, Bool.and_true, Bool.true_and, Bool.and_self, Bool.and_false, Bool.false_and, Bool.or_self, Bool.or_false, Bool.false_or, Bool.or_true, Bool.true_or, eq_self])
section
variable {P : Program} {w : World} {K : PySem.W.Frag} {mg : Str → Option Value} {base : Heap}
theorem fil_step {l : List Nat} {P : Nat → Bool} {j x : Nat} (h : l[j]? = some x) : (l.take (j + 1)).filter P = (l.take j).filter P ++ (if P x = true then [x] else []) := by
  rw [List.take_add_one, h, List.filter_append]
  congr 1
  cases c : P x with
  | true => simp [c]
  | false => simp [c]
def PvB (HA : Hp) (D : Addr) (l : List Nat) (P : Nat → Bool) (j : Nat) (H : Hp) : Prop := Ex HA H ∧ H D = some (.lst ((nz ((l.take j).filter P)).map V.int))
theorem PvB.put {HA H : Hp} {D : Addr} {l : List Nat} {P : Nat → Bool} {j x : Nat} (h : PvB HA D l P j H) (nD : HA D = none) (hx : l[j]? = some x) (hl : l.length ≤ 12) (c : P x = true) : ∃ acc, H D = some (.lst acc) ∧ acc.length < sizeLine ∧ PvB HA D l P (j + 1) (upd H D (.lst (acc ++ [V.int (x : Nat)]))) := by
  obtain ⟨e, hD⟩ := h
  refine ⟨_, hD, BC.sz_lt ?_, e.mut nD, ?_⟩
  · rw [List.length_map, nz_len]
    have := List.length_filter_le P (l.take j)
    rw [List.length_take] at this
    omega
  · rw [upd_same, fil_step hx, if_pos c, TF.nz_append, List.map_append]
    rfl
theorem PvB.skip {HA H : Hp} {D : Addr} {l : List Nat} {P : Nat → Bool} {j x : Nat} (h : PvB HA D l P j H) (hx : l[j]? = some x) (c : P x = false) : PvB HA D l P (j + 1) H :=
  ⟨h.1, by rw [fil_step hx, if_neg (by rw [c]; decide), List.append_nil]; exact h.2⟩
theorem cut_init {xs : List V} {v : V} : cutV (xs ++ [v]) none (some (-1)) = xs := by
  have e0 : HT.sIx (xs ++ [v]).length 0 none = 0 := rfl
  have e1 : HT.sIx (xs ++ [v]).length (xs ++ [v]).length (some (-1)) = xs.length := by
    show (if (-1 : Int) < 0 then ((-1 : Int) + ((xs ++ [v]).length : Int)).toNat else min (-1 : Int).toNat (xs ++ [v]).length) = xs.length
    rw [if_pos (by decide), List.length_append, List.length_singleton]
    omega
  unfold cutV
  rw [e0, e1]
  simp
theorem cut_one {x : V} {xs : List V} : cutV (x :: xs) none (some 1) = [x] := by
  have e0 : HT.sIx (x :: xs).length 0 none = 0 := rfl
  have e1 : HT.sIx (x :: xs).length (x :: xs).length (some 1) = 1 := by
    show (if (1 : Int) < 0 then ((1 : Int) + ((x :: xs).length : Int)).toNat else min (1 : Int).toNat (x :: xs).length) = 1
    rw [if_neg (by decide), List.length_cons]
    have : (1 : Int).toNat = 1 := rfl
    omega
  unfold cutV
  rw [e0, e1]
  simp
/-- the next trail in list order -/
def spBehind (K : PySem.W.Frag) : Sp := fun vs H Q _ => ∃ (s a : Addr) (G : Grid) (t : List Nat), vs = [.ref s, .ref a] ∧ GridAt H s G ∧ SiteOk G ∧ TF.TrOk G t ∧ H a = some (.lst ((nz t).map V.int)) ∧
  (∀ u q H', TF.nxt G t = some u → H q = none → Ex H H' → H' q = some (.lst ((nz u).map V.int)) → Q (.ref q) H') ∧ (∀ H', TF.nxt G t = none → Ex H H' → Q .non H')
theorem ok_law_behind (T : Txt K mg) : FnOk P w K mg base CX0 1 T.f_law_behind T.fd_law_behind ["_law_net_here", "_law_row"] (spBehind K) := by
  refine T.F_law_behind.ok sc_law_behind (fun vs H Q E h => ?_) (fun cdv A outer s H vs Q E hr h => ?_)
  · obtain ⟨s, a, G, t, rfl, _⟩ := h
    rfl
  · obtain ⟨s, a, G, t, rfl, hS, ok, okt, hA, k, kn⟩ := h
    apply Exists.intro
    apply And.intro
    · apply pss_cons
      · exact (ps_setLc (i := 2) (own := [("_law_far", 3)]) rfl sc_law_behind.nd rfl rfl (sw_true rfl rfl rfl (by decide +kernel)) (k_pi_list (K := K) rfl (pe_ix (k_ix_list (K := K) rfl) (pv 0) (pe_ix (k_ix_list (K := K) rfl) (pv 1) (pe_un un_neg pe_int) (fun _ _ => rfl)) (fun _ _ => rfl))) (blkOk_by (own := [("_law_far", 3)]) (N := ["_law_net_here", "_law_row", "_law_able", "_law_far", "_law_last"]) (sc := defScope s_law_behind) (by decide +kernel)) (fun _ _ _ _ _ => by exact (pg_name (i := 3) sc_law_behind.nd rfl (.inl rfl))) (fun _ _ _ _ _ => by exact (pts_one (pt_cmpR (k_notIn (K := K) rfl) (pv 3) (pv 1) (by rfl)))) (fun _ _ _ _ _ => by exact (pv 3)))
      apply pss_cons
      · apply ps_if
        · exact (pt_cmpR (k_neD (K := K) rfl hr.units) (pv 2) (pe_lst pa_nil) (by rfl))
        · apply pss_one
          exact (ps_ret (pe_op op_cat (pv 1) (pe_slice (k_sl_list (K := K) rfl) (pv 2) po_none (po_some pe_int))))
        · exact pss_nil
      apply pss_cons
      · apply ps_while PassesOwn.never
        · exact (pt_cmpR op_gt (pe_callB (k_len (K := K) rfl) (by rfl) T.n_len PySem.boot_len (pa_cons (pv 1) pa_nil)) pe_int (by rfl))
        · apply pss_cons
          · exact (ps_asg (pe_tup (pa_cons (pe_slice (k_sl_list (K := K) rfl) (pv 1) po_none (po_some (pe_un un_neg pe_int))) (pa_cons (pe_ix (k_ix_list (K := K) rfl) (pv 1) (pe_un un_neg pe_int) (fun _ _ => rfl)) pa_nil))) (k_tup (K := K) (n := 2) rfl rfl (pgs_cons (pg_name (i := 1) sc_law_behind.nd rfl (.inr rfl)) (pgs_cons (pg_name (i := 4) sc_law_behind.nd rfl (.inr rfl)) pgs_nil))))
          apply pss_cons
          · exact (ps_setLc (i := 2) (own := [("_law_far", 3)]) rfl sc_law_behind.nd rfl rfl (sw_true rfl rfl rfl (by decide +kernel)) (k_pi_list (K := K) rfl (pe_ix (k_ix_list (K := K) rfl) (pv 0) (pe_ix (k_ix_list (K := K) rfl) (pv 1) (pe_un un_neg pe_int) (fun _ _ => rfl)) (fun _ _ => rfl))) (blkOk_by (own := [("_law_far", 3)]) (N := ["_law_net_here", "_law_row", "_law_able", "_law_far", "_law_last"]) (sc := defScope s_law_behind) (by decide +kernel)) (fun _ _ _ _ _ => by exact (pg_name (i := 3) sc_law_behind.nd rfl (.inl rfl))) (fun _ _ _ _ _ => by exact (pts_one (PW.pt (pw_and (pt_cmpR op_gt (pv 3) (pv 4) (by rfl)) (pw_and1 (pt_cmpR (k_notIn (K := K) rfl) (pv 3) (pv 1) (by rfl))))))) (fun _ _ _ _ _ => by exact (pv 3)))
          apply pss_one
          apply ps_if
          · exact (pt_cmpR (k_neD (K := K) rfl hr.units) (pv 2) (pe_lst pa_nil) (by rfl))
          · apply pss_one
            exact (ps_ret (pe_op op_cat (pv 1) (pe_slice (k_sl_list (K := K) rfl) (pv 2) po_none (po_some pe_int))))
          · exact pss_nil
      apply pss_one
      exact (ps_ret pe_non)
    walk_at "sx"
    have hlt := lst_lt okt
    have t12 := okt.len
    have n2 := ok.n2
    obtain ⟨rp, xs, h1, h2, h3, h4⟩ := hS.get hlt
    refine ixL (.inl (.inl hA)) (atI_last (last_nz okt.ne)) (ixL (.inl (.inl h1)) (atI_n (j := lst t) (by rfl) h3) ⟨rp, rfl, ⟨_, .inl (.inl h4)⟩, fun D nD => ?_⟩)
    refine lc_listT (xs := (nz (row G (lst t))).map V.int) (PvB H D (row G (lst t)) fun u => decide (u ∉ t)) ⟨Ex.new nD, upd_same⟩ (fun u H' _ hP => .inl (.inl (hP.1 _ _ h4))) (fun u x H' hx hP => ?_) (fun H7 hP => ?_)
    · obtain ⟨x, hx', rfl⟩ := at_nz hx
      refine ⟨rfl, ?_⟩
      simp only [wipe, List.set_cons_zero, List.set_cons_succ]
      walk_at "sx"
      refine ninL (.inl (.inl (hP.1 _ _ hA))) ?_
      refine ⟨_, rfl, ?_⟩
      by_cases cx : x ∈ t
      · rw [decide_eq_true (nz_mem.mpr cx), if_neg (by decide)]
        exact hP.skip hx' (by simp [cx])
      · rw [decide_eq_false fun m => cx (nz_mem.mp m), if_pos (by decide)]
        exact hP.put nD hx' (ok.rlen _) (by simp [cx])
    obtain ⟨e7, hD⟩ := hP
    rw [List.length_map, nz_len, List.take_of_length_le (Nat.le_refl _)] at hD
    have hD : H7 D = some (.lst ((nz (TF.kids G t)).map V.int)) := hD
    refine ⟨Nat.zero_le _, fun z nz1 => ?_⟩
    have ez := Ex.new nz1 (o := .lst [])
    have hDz := ez _ _ hD
    have ez7 := e7.trans ez
    refine neInts (ns := nz (TF.kids G t)) (ms := []) (.inl (.inl hDz)) (.inl (.inl upd_same)) ?_
    generalize upd H7 z (.lst []) = H8 at hDz ez7 ⊢
    cases ck : TF.kids G t with
    | cons u us =>
      have hn : TF.nxt G t = some (t ++ [u]) := by rw [TF.nxt_eq, ck]
      rw [ck] at hDz
      refine ⟨_, rfl, ?_⟩
      rw [decide_eq_false (by intro q; cases q), if_pos (by decide)]
      refine slL (.inl (.inl hDz)) fun b nb => ?_
      have eb := Ex.new nb (o := .lst (cutV ((nz (u :: us)).map V.int) none (some 1)))
      refine catL ((ez7.trans eb) _ _ hA) upd_same (sz_ok ?_) fun c nc => ?_
      · rw [show ((nz (u :: us)).map V.int) = V.int (u : Nat) :: (nz us).map V.int from rfl, cut_one, List.length_map, nz_len]
        simp
        omega
      · have ec := Ex.new nc (o := .lst ((nz t).map V.int ++ cutV ((nz (u :: us)).map V.int) none (some 1)))
        have e9 := (ez7.trans eb).trans ec
        refine k _ c _ hn (fresh_back (ez7.trans eb) nc) e9 ?_
        rw [upd_same, show ((nz (u :: us)).map V.int) = V.int (u : Nat) :: (nz us).map V.int from rfl, cut_one, TF.nz_append, List.map_append]
        rfl
    | nil =>
      have hn : TF.nxt G t = TF.climb G t := by rw [TF.nxt_eq, ck]
      rw [hn] at k kn
      refine ⟨_, rfl, ?_⟩
      rw [decide_eq_true (by rfl), if_neg (by decide)]
      refine ⟨fun m σ' H' => ∃ (b : Addr) (t' : List Nat) (l2 l3 l4 : Option V), m = t'.length ∧ σ' = [some (.ref s), some (.ref b), l2, l3, l4] ∧ l3 = none ∧ Ex H H' ∧ TF.TrOk G t' ∧ TF.climb G t = TF.climb G t' ∧ H' b = some (.lst ((nz t').map V.int)), ⟨_, a, t, _, _, _, rfl, rfl, rfl, ez7, okt, rfl, ez7 _ _ hA⟩, fun m σ' H' hW => ?_⟩
      obtain ⟨b, t', l2, l3, l4, rfl, rfl, rfl, e, ok', hcl, hb⟩ := hW
      walk_at "sx"
      refine lenL (.inl (.inl hb)) ?_
      walk_at "sx"
      rw [List.length_map, nz_len]
      by_cases c1 : 1 < t'.length
      · obtain ⟨q, x, rfl⟩ : ∃ q x, t' = q ++ [x] := ⟨_, _, (List.dropLast_concat_getLast ok'.ne).symm⟩
        have lq : (q ++ [x]).length = q.length + 1 := by simp
        have hq : q ≠ [] := fun z => by rw [z] at c1; simp at c1
        have okq : TF.TrOk G q := ⟨hq, (List.nodup_append.mp ok'.nd).1, fun y hy => ok'.lt y (List.mem_append_left _ hy)⟩
        rw [if_pos (by omega)]
        refine ⟨fun σ' H' => ∃ (b : Addr) (l2 l4 : Option V), σ' = [some (.ref s), some (.ref b), l2, none, l4] ∧ Ex H H' ∧ TF.climb G t = TF.climb G q ∧ H' b = some (.lst ((nz q).map V.int)), fun σ' H' hN => ?_, ?_⟩
        · obtain ⟨b, l2, l4, rfl, e1, e2, e3⟩ := hN
          exact ⟨q.length, by omega, b, q, rfl, l2, none, l4, rfl, rfl, e1, okq, e2, e3⟩
        refine slL (.inl (.inl hb)) fun q1 nq1 => ?_
        have ex : ((nz (q ++ [x])).map V.int) = (nz q).map V.int ++ [V.int (x : Nat)] := by rw [TF.nz_append, List.map_append]; rfl
        have eq1 := Ex.new nq1 (o := .lst (cutV ((nz (q ++ [x])).map V.int) none (some (-1))))
        have hq1 : (upd H' q1 (.lst (cutV ((nz (q ++ [x])).map V.int) none (some (-1))))) q1 = some (.lst ((nz q).map V.int)) := by rw [upd_same, ex, cut_init]
        have eA := e.trans eq1
        have hbA := eq1 _ _ hb
        generalize upd H' q1 (.lst (cutV ((nz (q ++ [x])).map V.int) none (some (-1)))) = HA at eA hq1 hbA ⊢
        refine ixL (.inl (.inl hbA)) (atI_last (last_nz ok'.ne)) ?_
        rw [TF.lst_snoc]
        refine ⟨by decide, fun T1 nT => g_two upd_same ?_⟩
        have eT := Ex.new nT (o := .tup [.ref q1, .int (x : Nat)])
        have eB := eA.trans eT
        have hqB := eT _ _ hq1
        generalize upd HA T1 (.tup [.ref q1, .int (x : Nat)]) = HB at eB hqB ⊢
        simp only [List.set_cons_zero, List.set_cons_succ]
        walk_at "sx"
        obtain ⟨rp2, xs2, g1, g2, g3, g4⟩ := (hS.ex eB).get (lst_lt okq)
        refine ixL (.inl (.inl hqB)) (atI_last (last_nz okq.ne)) (ixL (.inl (.inl g1)) (atI_n (j := lst q) (by rfl) g3) ⟨rp2, rfl, ⟨_, .inl (.inl g4)⟩, fun D2 nD2 => ?_⟩)
        have l12 := ok.rlen (lst q)
        refine lc_listT (xs := (nz (row G (lst q))).map V.int) (PvB HB D2 (row G (lst q)) fun u => decide (x < u) && decide (u ∉ q)) ⟨Ex.new nD2, upd_same⟩ (fun u H' _ hP => .inl (.inl (hP.1 _ _ g4))) (fun u y H'' hy hP => ?_) (fun H7 hP => ?_)
        · obtain ⟨y, hy', rfl⟩ := at_nz hy
          refine ⟨rfl, ?_⟩
          simp only [wipe, List.set_cons_zero, List.set_cons_succ]
          walk_at "sx"
          by_cases cx : x < y
          · rw [if_pos (by omega)]
            refine ninL (.inl (.inl (hP.1 _ _ hqB))) ?_
            refine ⟨_, rfl, ?_⟩
            by_cases cy : y ∈ q
            · rw [decide_eq_true (nz_mem.mpr cy), if_neg (by decide)]
              exact hP.skip hy' (by simp [cy])
            · rw [decide_eq_false fun m => cy (nz_mem.mp m), if_pos (by decide)]
              exact hP.put nD2 hy' l12 (by simp [cx, cy])
          · rw [if_neg (by omega)]
            exact hP.skip hy' (by simp [cx])
        obtain ⟨e9, hD2⟩ := hP
        rw [List.length_map, nz_len, List.take_of_length_le (Nat.le_refl _)] at hD2
        have hD2 : H7 D2 = some (.lst ((nz (TF.later G q x)).map V.int)) := hD2
        refine ⟨Nat.zero_le _, fun z2 nz2 => ?_⟩
        have ez2 := Ex.new nz2 (o := .lst [])
        have hDz2 := ez2 _ _ hD2
        have e10 := e9.trans ez2
        have eC := eB.trans e10
        refine neInts (ns := nz (TF.later G q x)) (ms := []) (.inl (.inl hDz2)) (.inl (.inl upd_same)) ?_
        generalize upd H7 z2 (.lst []) = H9 at hDz2 e10 eC ⊢
        have hqC := e10 _ _ hqB
        have cs := TF.climb_snoc (G := G) hq x
        cases cl : TF.later G q x with
        | cons u us =>
          rw [cl] at hDz2 cs
          refine ⟨_, rfl, ?_⟩
          rw [decide_eq_false (by intro q; cases q), if_pos (by decide)]
          refine slL (.inl (.inl hDz2)) fun b2 nb2 => ?_
          have eb2 := Ex.new nb2 (o := .lst (cutV ((nz (u :: us)).map V.int) none (some 1)))
          refine catL (eb2 _ _ hqC) upd_same (sz_ok ?_) fun c nc => ?_
          · rw [show ((nz (u :: us)).map V.int) = V.int (u : Nat) :: (nz us).map V.int from rfl, cut_one, List.length_map, nz_len]
            have := okq.len
            simp
            omega
          · have ec := Ex.new nc (o := .lst ((nz q).map V.int ++ cutV ((nz (u :: us)).map V.int) none (some 1)))
            refine k _ c _ (hcl.trans cs) (fresh_back (eC.trans eb2) nc) ((eC.trans eb2).trans ec) ?_
            rw [upd_same, show ((nz (u :: us)).map V.int) = V.int (u : Nat) :: (nz us).map V.int from rfl, cut_one, TF.nz_append, List.map_append]
            rfl
        | nil =>
          rw [cl] at cs
          refine ⟨_, rfl, ?_⟩
          rw [decide_eq_true (by rfl), if_neg (by decide)]
          exact ⟨_, _, _, ⟨rfl, rfl, rfl⟩, eC, hcl.trans cs, hqC⟩
      · rw [if_neg (by omega)]
        refine kn _ ?_ e
        rw [hcl]
        obtain ⟨y, hy⟩ : ∃ y, t' = [y] := by
          cases t' with
          | nil => exact absurd rfl ok'.ne
          | cons y r =>
            cases r with
            | nil => exact ⟨y, rfl⟩
            | cons z r => simp at c1
        rw [hy]
        rfl
end
end LW
set_option Elab.async false
set_option linter.all false
set_option maxRecDepth 100000
set_option maxHeartbeats 4000000
namespace LW
open PySem PySem.Spec PyProof.Rows L2 BC Evl TR
local macro_rules | `(tactic| walk_at "sx") => `(tactic| try simp only [x_din, x_dnotin, x_iitemsT, x_dispT1, x_valsT, x_lockT, SL.x_yfor, SL.x_yplain, SL.x_ythen, SL.x_y0, SL.x_yyield, SL.x_ywhile, SL.x_callY, SL.x_callYK, x_gwhile, x_callG, x_g0, x_gfor, x_gplain, x_gthen, x_gyield, x_listG, x_dnewT, x_dget, x_dget2, x_dput, x_seq, x_next, x_brk, x_cnt, x_nev, x_ret, x_retN, x_drop, x_ifS, x_asg, x_gn, x_gsub, x_par, x_par3, x_aug, x_for, x_lc, x_rng1, x_rng2, x_rng3, x_ilist, x_itup, x_ienum, x_izip, x_izipA, x_istr, x_var, x_c, x_op, x_un, x_test, x_b, x_chain, x_and, x_or, x_not, x_andV, x_orV, x_notV, x_ife, x_nil, x_cons, x_lst, x_tup, x_cb, x_call, x_callK, x_bm, x_bm0, x_tru, x_sl, x_nopart, x_part, x_revL, x_I0, x_I, x_U, x_ip, x_ipC, x_eqI, x_neI, x_eqB, x_neB, x_eqS, x_neS, x_isB, x_isNB, x_lrg, x_gall, x_lenSet, x_augS, x_sortSet, x_rg1, x_rg2,
  L2.start, List.map_cons, List.map_nil, List.length_cons, List.length_nil, Nat.reduceAdd, Nat.reduceSub, Nat.sub_self, Nat.zero_add, List.replicate, List.replicate_succ, List.replicate_zero, List.append_nil, List.cons_append, List.nil_append, List.set_cons_zero, List.set_cons_succ, List.getElem?_cons_zero, List.getElem?_cons_succ, Option.some.injEq, V.int.injEq, V.bl.injEq, V.ref.injEq, V.str.injEq, List.cons.injEq, and_true, true_and, exists_eq_left', exists_eq_left, exists_and_left, exists_eq, if_true, if_false, ite_true, ite_false, Bool.true_eq_false, Bool.false_eq_true, reduceIte, reduceCtorEq, Bool.not_true, Bool.not_false, decide_true, decide_false, decide_eq_true_eq, Bool.and_true, Bool.true_and, Bool.and_self, Bool.and_false, Bool.false_and, Bool.or_self, Bool.or_false, Bool.false_or, Bool.or_true, Bool.true_or, eq_self])
section
variable {P : Program} {w : World} {K : PySem.W.Frag} {mg : Str → Option Value} {base : Heap}
def spPool (K : PySem.W.Frag) : Sp := fun vs H Q _ => ∃ (a : Addr) (ns : List Int) (k : Nat), vs = [.ref a, .int k] ∧ SqL K H a (ns.map V.int) ∧ ns.length ≤ 63 ∧ k < 64 ∧ ∀ p H', H p = none → Ex H H' → BagAt H' p 0 → Q (.ref p) H'
theorem ok_law_pool (T : Txt K mg) : FnOk P w K mg base CX0 1 T.f_law_pool T.fd_law_pool ["_law_script", "_law_k"] (spPool K) := by
  refine T.F_law_pool.ok sc_law_pool (fun vs H Q E h => ?_) (fun cdv A outer s H vs Q E hr h => ?_)
  · obtain ⟨a, ns, k, rfl, _⟩ := h
    rfl
  · obtain ⟨a, ns, i, rfl, hA, hl, hi, k⟩ := h
    apply Exists.intro
    apply And.intro
    · apply pss_cons
      · exact (ps_set (i := 2) sc_law_pool.nd rfl (.inl rfl) pe_int)
      apply pss_cons
      · apply ps_if
        · exact (pt_cmpR op_lt (pv 1) (pe_callB (k_len (K := K) rfl) (by rfl) T.n_len PySem.boot_len (pa_cons (pv 0) pa_nil)) (by rfl))
        · apply pss_one
          exact (ps_set (i := 2) sc_law_pool.nd rfl (.inl rfl) (pe_ix (k_ix_list (K := K) rfl) (pv 0) (pv 1) (fun _ _ => rfl)))
        · exact pss_nil
      apply pss_one
      exact (ps_ret (pe_lst (pa_cons (pe_callB (call_max2 rfl) (by rfl) T.n_max (by decide +kernel) (pa_cons pe_int (pa_cons (pe_op op_sub (pv 2) (pe_op op_powX pe_int pe_int)) pa_nil))) (pa_cons (pe_op op_add (pe_op op_mulX (pe_op op_modX (pv 2) (pe_op op_add (pe_op op_powX pe_int pe_int) pe_int)) pe_int) (pv 1)) (pa_cons pe_int pa_nil)))))
    refine seq_asg (fun v H' => v = .int 0 ∧ H' = H) (fun R hR => hR _ _ ⟨rfl, rfl⟩) (fun v H1 hC => ?_)
    obtain ⟨rfl, rfl⟩ := hC
    refine seq_cut (fun σ' H' => ∃ n : Int, σ' = [some (.ref a), some (.int i), some (.int n)] ∧ H' = H1) (fun N hN => ?_) (fun σ' H' hC => ?_)
    · walk_at "sx"
      refine lenL hA ?_
      walk_at "sx"
      rw [List.length_map]
      by_cases c : (i : Int) < (ns.length : Nat)
      · rw [if_pos c]
        have hx : ns[i]? = some ns[i] := List.getElem?_eq_getElem (by omega)
        exact ixL hA (atI_n rfl (at_ints hx)) (hN _ _ ⟨_, rfl, rfl⟩)
      · rw [if_neg c]
        exact hN _ _ ⟨_, rfl, rfl⟩
    obtain ⟨n, rfl, rfl⟩ := hC
    walk_at "sx"
    have t18 : Int.toNat 18 = 18 := rfl
    have t40 : Int.toNat 40 = 40 := rfl
    rw [t40]
    have m0 : 0 ≤ n % (10 ^ 40 + 121) := Int.emod_nonneg _ (by decide)
    have m1 : n % (10 ^ 40 + 121) < 10 ^ 40 + 121 := Int.emod_lt_of_pos _ (by decide)
    refine ⟨⟨by decide, by decide, by decide⟩, _, _, ⟨rfl, rfl⟩, ⟨by decide, by decide, by decide⟩, by decide, .inl (.inr ⟨by decide, by decide⟩), sz_ok (by omega), fun p np => ?_⟩
    refine k p _ np (Ex.new np) ⟨_, _, _, upd_same, by omega, by omega, by omega, by omega⟩
theorem ok_law_draw (T : Txt K mg) : FnOk P w K mg base CX0 1 T.f_law_draw T.fd_law_draw ["_law_pool_here", "_law_many"] spDraw := by
  refine T.F_law_draw.ok sc_law_draw (fun vs H Q E h => ?_) (fun cdv A outer s H vs Q E hr h => ?_)
  · obtain ⟨b, m, c, rfl, _⟩ := h
    rfl
  · obtain ⟨b, m, c, rfl, h1, h2, hB, hc, k⟩ := h
    obtain ⟨x0, x1, x2, hb, h3, h4, h5, h6⟩ := hB
    apply Exists.intro
    apply And.intro
    · apply pss_cons
      · apply ps_if
        · exact (pt_cmpR op_gt (pe_ix (k_ix_list (K := K) rfl) (pv 0) pe_int (fun _ _ => rfl)) pe_int (by rfl))
        · apply pss_cons
          · exact (ps_set (i := 3) sc_law_draw.nd rfl (.inl rfl) (pe_op op_modX (pe_ix (k_ix_list (K := K) rfl) (pv 0) pe_int (fun _ _ => rfl)) (pv 1)))
          apply pss_cons
          · exact (ps_asg (pe_op op_fdivX (pe_ix (k_ix_list (K := K) rfl) (pv 0) pe_int (fun _ _ => rfl)) (pv 1)) (pg_sub (pv 0) pe_int set_list))
          apply pss_one
          exact (ps_ret (pv 3))
        · exact pss_nil
      apply pss_cons
      · exact (ps_asg (pe_op op_add (pe_ix (k_ix_list (K := K) rfl) (pv 0) pe_int (fun _ _ => rfl)) pe_int) (pg_sub (pv 0) pe_int set_list))
      apply pss_cons
      · exact (ps_set (i := 2) sc_law_draw.nd rfl (.inl rfl) (pe_op op_modX (pe_op op_powX (pe_op op_add (pe_ix (k_ix_list (K := K) rfl) (pv 0) pe_int (fun _ _ => rfl)) (pe_op op_mulX pe_int (pe_ix (k_ix_list (K := K) rfl) (pv 0) pe_int (fun _ _ => rfl)))) pe_int) (pe_op op_add (pe_op op_powX pe_int pe_int) pe_int)))
      apply pss_cons
      · exact (ps_set (i := 2) sc_law_draw.nd rfl (.inl rfl) (pe_op op_modX (pe_op op_powX (pe_op op_add (pv 2) (pe_op op_mulX pe_int (pe_ix (k_ix_list (K := K) rfl) (pv 0) pe_int (fun _ _ => rfl)))) pe_int) (pe_op op_add (pe_op op_powX pe_int pe_int) pe_int)))
      apply pss_one
      exact (ps_ret (pe_op op_modX (pe_op op_fdivX (pv 2) pe_int) (pv 1)))
    walk_at "sx"
    refine ixL (.inl (.inl hb)) (atI_n (j := 0) rfl rfl) ?_
    walk_at "sx"
    have hdm : ∀ i, CDivW i m := fun i => wide_div (b := 2001) h1 (big_lt h1 h2) (by omega) (by omega)
    by_cases h0 : 0 < x0
    · simp only [h0, if_true]
      refine ixL (.inl (.inl hb)) (atI_n (j := 0) rfl rfl) ?_
      walk_at "sx"
      refine ⟨h1, ?_⟩
      refine ixL (.inl (.inl hb)) (atI_n (j := 0) rfl rfl) ?_
      walk_at "sx"
      refine ⟨hdm _, ?_⟩
      refine setL hb (ixN_n (j := 0) rfl (by simp)) ?_
      exact k _ _ (Int.emod_nonneg _ (by omega)) (Int.emod_lt_of_pos _ h1) Fx.put ⟨_, _, _, upd_same, h3, h4, h5, by omega⟩
    · simp only [h0, if_false]
      refine ixL (.inl (.inl hb)) (atI_n (j := 2) rfl rfl) ?_
      walk_at "sx"
      refine setL hb (ixN_n (j := 2) rfl (by simp)) ?_
      have hb2 : (upd H b (.lst [V.int x0, V.int x1, V.int (x2 + 1)])) b = some (.lst [V.int x0, V.int x1, V.int (x2 + 1)]) := upd_same
      refine ixL (.inl (.inl hb2)) (atI_n (j := 1) rfl rfl) ?_
      walk_at "sx"
      refine ixL (.inl (.inl hb2)) (atI_n (j := 2) rfl rfl) ?_
      walk_at "sx"
      have c1 : CMulX 69061 (x2 + 1) := .inl (.inl ⟨by decide, by decide⟩)
      have c2 : CMulX 88469 (x2 + 1) := .inl (.inl ⟨by decide, by decide⟩)
      have c3 : CPowX (x1 + 69061 * (x2 + 1)) 3 := ⟨by decide, by decide, Nat.lt_of_lt_of_le (log2_small (k := 300) (by decide) (by omega)) (by decide)⟩
      have t41 : Int.toNat 41 = 41 := rfl
      have t38 : Int.toNat 38 = 38 := rfl
      rw [t41, t38]
      refine ⟨c1, c3, ⟨by decide, by decide, by decide⟩, by decide, ?_⟩
      refine ixL (.inl (.inl hb2)) (atI_n (j := 2) rfl rfl) ?_
      walk_at "sx"
      generalize hz : (x1 + 69061 * (x2 + 1)) ^ Int.toNat 3 % (10 ^ 41 + 37) = z
      have hz0 : 0 ≤ z := by rw [← hz]; exact Int.emod_nonneg _ (by decide)
      have hz1 : z < 10 ^ 41 + 37 := by rw [← hz]; exact Int.emod_lt_of_pos _ (by decide)
      have c4 : CPowX (z + 88469 * (x2 + 1)) 3 := ⟨by decide, by decide, Nat.lt_of_lt_of_le (log2_small (k := 300) (by decide) (by omega)) (by decide)⟩
      refine ⟨c2, c4, ⟨by decide, by decide, by decide⟩, by decide, ⟨by decide, by decide⟩, h1, ?_⟩
      exact k _ _ (Int.emod_nonneg _ (by omega)) (Int.emod_lt_of_pos _ h1) Fx.put ⟨_, _, _, hb2, h3, h4, by omega, by omega⟩
end
section
variable {P : Program} {w : World} {K : PySem.W.Frag} {mg : Str → Option Value} {base : Heap}
theorem keepL {b a : Addr} {H0 H H' : Hp} {xs : List V} (nb : H0 b = none) (h0 : SqL K H0 a xs) (h : SqL K H a xs) (f : Fx b H H') : SqL K H' a xs := by
  by_cases z : a = b
  · subst z
    rcases h0 with h0 | h0
    · rcases h0 with q | ⟨o, q⟩
      · rw [nb] at q; cases q
      · rw [nb] at q; cases q
    · exact .inr h0
  · exact f.l z h
theorem g_thr {i j k : Nat} {σ : L2.St} {H : Hp} {T : Addr} {x y z : V} {QG : L2.St → Hp → Prop} (h : H T = some (.tup [x, y, z])) (r : QG (((σ.set i (some x)).set j (some y)).set k (some z)) H) :
    gTup K 3 (gCons (gName i) (gCons (gName j) (gCons (gName k) gNil))) (.ref T) σ H QG := ⟨T, [x, y, z], rfl, .inl (.inl h), rfl, x, [y, z], rfl, y, [z], rfl, z, [], rfl, rfl, r⟩
/-- a drawn site -/
def spNet (K : PySem.W.Frag) : Sp := fun vs H Q _ => ∃ (b a : Addr) (ns : List Int), vs = [.ref b, .ref a, .int 12] ∧ SqL K H a (ns.map V.int) ∧ (∃ H0, H0 b = none ∧ SqL K H0 a (ns.map V.int)) ∧ BagAt H b 0 ∧
  ∀ s (G : Grid) H', Fx b H H' → BagAt H' b 200 → GridN H H' s G → SiteOk G → G.length ≤ 12 → Q (.ref s) H'
def RowsOk (m : Nat) (G : Grid) : Prop := ∀ (i : Nat) (r : List Nat), G[i]? = some r → r.Pairwise (· < ·) ∧ (∀ x ∈ r, x < m) ∧ i ∉ r
def JNe (H : Hp) (b a : Addr) (m : Nat) (st sh : Int) (i : Nat) (σ' : L2.St) (H' : Hp) : Prop := ∃ l5 f l8 l9 l10 l11 G, σ' = [some (.ref b), some (.ref a), some (.int 12), some (.int sh), some (.ref f), l5, some (.int m), some (.int st), l8, l9, l10, l11] ∧
  Fx b H H' ∧ BagAt H' b (5 + m * i) ∧ GridN H H' f G ∧ G.length = i ∧ RowsOk m G
def JRo (H0 : Hp) (b a : Addr) (m : Nat) (st sh : Int) (f r : Addr) (i : Nat) (j : Nat) (σ' : L2.St) (H' : Hp) : Prop := ∃ l9 l10 l11 R, σ' = [some (.ref b), some (.ref a), some (.int 12), some (.int sh), some (.ref f), some (.int (i : Int)), some (.int m), some (.int st), some (.ref r), l9, l10, l11] ∧
  Fx b H0 H' ∧ BagAt H' b (5 + m * i + j) ∧ H' r = some (.lst ((nz R).map V.int)) ∧ R.Pairwise (· < ·) ∧ (∀ x ∈ R, x < j) ∧ i ∉ R
theorem ok_law_net (T : Txt K mg) : FnOk P w K mg base CX0 2 T.f_law_net T.fd_law_net ["_law_pool_here", "_law_script", "_law_most"] (spNet K) := by
  refine T.F_law_net.ok sc_law_net (fun vs H Q E h => ?_) (fun cdv A outer s H vs Q E hr h => ?_)
  · obtain ⟨b, a, ns, rfl, _⟩ := h
    rfl
  · obtain ⟨b, a, ns, rfl, hA, ⟨H0, nb0, hA0⟩, hB, k⟩ := h
    apply Exists.intro
    apply And.intro
    · apply pss_cons
      · exact (ps_par (i := 6) (j := 7) (by rfl) sc_law_net.nd rfl rfl (by decide) rfl rfl (pa_cons (pe_ix (k_ix_list (K := K) rfl) (pe_lst (pa_cons (pe_op op_add pe_int (pe_call (ok_law_draw T) (hr.mono (by decide)) (by rfl) T.m_law_draw T.F_law_draw.kp T.b_law_draw .nil pass0 (pa_cons (pv 0) (pa_cons pe_int pa_nil)))) (pa_cons (pe_op op_add pe_int (pe_call (ok_law_draw T) (hr.mono (by decide)) (by rfl) T.m_law_draw T.F_law_draw.kp T.b_law_draw .nil pass0 (pa_cons (pv 0) (pa_cons (pv 2) pa_nil)))) (pa_cons (pv 2) pa_nil)))) (pe_call (ok_law_draw T) (hr.mono (by decide)) (by rfl) T.m_law_draw T.F_law_draw.kp T.b_law_draw .nil pass0 (pa_cons (pv 0) (pa_cons pe_int pa_nil))) (fun _ _ => rfl)) (pa_cons (pe_call (ok_law_draw T) (hr.mono (by decide)) (by rfl) T.m_law_draw T.F_law_draw.kp T.b_law_draw .nil pass0 (pa_cons (pv 0) (pa_cons pe_int pa_nil))) pa_nil)) (by rfl))
      apply pss_cons
      · exact (ps_set (i := 3) sc_law_net.nd rfl (.inl rfl) (pe_op op_add pe_int (pe_call (ok_law_draw T) (hr.mono (by decide)) (by rfl) T.m_law_draw T.F_law_draw.kp T.b_law_draw .nil pass0 (pa_cons (pv 0) (pa_cons pe_int pa_nil)))))
      apply pss_cons
      · exact (ps_asg (pe_ifExp (pt_cmpR (k_eqD (K := K) rfl hr.units) (pv 1) (pe_lst pa_nil) (by rfl)) (pe_tup (pa_cons pe_int (pa_cons pe_int (pa_cons pe_int pa_nil)))) (pe_tup (pa_cons (pv 6) (pa_cons (pv 7) (pa_cons (pv 3) pa_nil))))) (k_tup (K := K) (n := 3) rfl rfl (pgs_cons (pg_name (i := 6) sc_law_net.nd rfl (.inl rfl)) (pgs_cons (pg_name (i := 7) sc_law_net.nd rfl (.inl rfl)) (pgs_cons (pg_name (i := 3) sc_law_net.nd rfl (.inl rfl)) pgs_nil)))))
      apply pss_cons
      · exact (ps_set (i := 4) sc_law_net.nd rfl (.inl rfl) (pe_lst pa_nil))
      apply pss_cons
      · apply ps_for PassesOwn.never rfl
        · exact (pi_range1 (by rfl) T.n_range (pa_cons (pv 6) pa_nil))
        · exact (pg_name (i := 5) sc_law_net.nd rfl (.inl rfl))
        · apply pss_cons
          · exact (ps_set (i := 8) sc_law_net.nd rfl (.inl rfl) (pe_lst pa_nil))
          apply pss_cons
          · apply ps_for PassesOwn.never rfl
            · exact (pi_range1 (by rfl) T.n_range (pa_cons (pv 6) pa_nil))
            · exact (pg_name (i := 9) sc_law_net.nd rfl (.inl rfl))
            · apply pss_cons
              · exact (ps_set (i := 10) sc_law_net.nd rfl (.inl rfl) (pe_call (ok_law_draw T) (hr.mono (by decide)) (by rfl) T.m_law_draw T.F_law_draw.kp T.b_law_draw .nil pass0 (pa_cons (pv 0) (pa_cons pe_int pa_nil))))
              apply pss_cons
              · exact (ps_set (i := 11) sc_law_net.nd rfl (.inl rfl) (pe_lst (pa_cons (pe_cmpR op_lt (pv 10) (pe_op op_mulX pe_int (pv 3)) (by rfl)) (pa_cons (pe_cmpR op_lt (pv 10) (pv 3) (by rfl)) (pa_cons pe_bl (pa_cons (pe_cmpR op_eq (pv 9) (pe_op op_modX (pe_op op_add (pv 5) pe_int) (pv 6)) (by rfl)) (pa_cons (pe_cmpR op_eq (pe_callB call_abs (by rfl) T.n_abs (by decide +kernel) (pa_cons (pe_op op_sub (pv 9) (pv 5)) pa_nil)) pe_int (by rfl)) (pa_cons (pe_cmpR op_gt (pv 10) pe_int (by rfl)) pa_nil))))))))
              apply pss_one
              apply ps_if
              · exact (PW.pt (pw_and (pt_cmpR op_ne (pv 9) (pv 5) (by rfl)) (pw_and1 (k_truth (K := K) rfl (pe_ix (k_ix_list (K := K) rfl) (pe_op op_cat (pv 11) (pe_lst (pa_cons (pe_cmpR op_lt (pv 10) pe_int (by rfl)) pa_nil))) (pv 7) (fun _ _ => rfl)) (by intro _; rfl)))))
              · apply pss_one
                exact (ps_expr (k_bm (K := K) rfl (pe_bm PySem.F.plainAttrs_list PySem.F.slot_list_append PySem.F.type_list_append mt_append (pv 8) (pa_cons (pv 9) pa_nil))))
              · exact pss_nil
          apply pss_one
          exact (ps_expr (k_bm (K := K) rfl (pe_bm PySem.F.plainAttrs_list PySem.F.slot_list_append PySem.F.type_list_append mt_append (pv 4) (pa_cons (pv 8) pa_nil))))
      apply pss_one
      exact (ps_ret (pv 4))
    obtain ⟨ob, hob⟩ := hB.some
    have Pk : ∀ (R : Prop), R → R := fun _ r => r
    refine seq_cut (fun σ' H' => ∃ (m : Nat) (st : Int), σ' = [some (.ref b), some (.ref a), some (.int 12), none, none, none, some (.int m), some (.int st), none, none, none, none] ∧ 1 ≤ m ∧ m ≤ 12 ∧ 0 ≤ st ∧ st < 7 ∧ Fx b H H' ∧ BagAt H' b 4) (fun N hN => ?_) (fun σ1 H1 hC => ?_)
    · walk_at "sx"
      refine ⟨b, _, _, rfl, by omega, big_of (by omega), hB, by omega, fun r1 H1 r10 r11 f1 b1 => ?_⟩
      walk_at "sx"
      refine ⟨b, _, _, rfl, by omega, big_of (by omega), b1, by omega, fun r2 H2 r20 r21 f2 b2 => ?_⟩
      walk_at "sx"
      refine ⟨sz_ok (by omega), fun z nz1 => ?_⟩
      have ez := Ex.new nz1 (o := .lst [V.int (1 + r1), V.int (1 + r2), V.int 12])
      refine ⟨b, _, _, rfl, by omega, big_of (by omega), b2.ex ez, by omega, fun r3 H3 r30 r31 f3 b3 => ?_⟩
      obtain ⟨x, hx, em⟩ := pickI (ns := [1 + r1, 1 + r2, 12]) r30 r31
      simp only [List.mem_cons, List.mem_nil_iff, or_false] at hx
      refine ixL (.inl (.inl (f3 _ _ (b2.apart nz1) upd_same))) em ?_
      refine ⟨b, _, _, rfl, by omega, big_of (by omega), b3, by omega, fun r4 H4 r40 r41 f4 b4 => ?_⟩
      refine ⟨_, _, ⟨rfl, rfl⟩, ?_⟩
      exact hN _ _ ⟨x.toNat, r4, by rw [Int.toNat_of_nonneg (by omega)], by omega, by omega, r40, r41, (((f1.trans f2).trans (Fx.of ez)).trans f3).trans f4, b4⟩
    obtain ⟨m, st, rfl, m1, m2, s0, s1, f1, b1⟩ := hC
    refine seq_cut (fun σ' H' => ∃ (m : Nat) (st sh : Int), σ' = [some (.ref b), some (.ref a), some (.int 12), some (.int sh), none, none, some (.int m), some (.int st), none, none, none, none] ∧ 1 ≤ m ∧ m ≤ 12 ∧ 0 ≤ st ∧ st < 7 ∧ 1 ≤ sh ∧ sh ≤ 4 ∧ Fx b H H' ∧ BagAt H' b 5) (fun N hN => ?_) (fun σ2 H2 hC => ?_)
    · walk_at "sx"
      refine ⟨b, _, _, rfl, by omega, big_of (by omega), b1, by omega, fun r1 H2 r10 r11 f2 b2 => ?_⟩
      walk_at "sx"
      exact hN _ _ ⟨m, st, 1 + r1, rfl, m1, m2, s0, s1, by omega, by omega, f1.trans f2, b2⟩
    obtain ⟨m, st, sh, rfl, m1, m2, s0, s1, h1, h2, f2, b2⟩ := hC
    refine seq_cut (fun σ' H' => ∃ (m : Nat) (st sh : Int), σ' = [some (.ref b), some (.ref a), some (.int 12), some (.int sh), none, none, some (.int m), some (.int st), none, none, none, none] ∧ 1 ≤ m ∧ m ≤ 12 ∧ 0 ≤ st ∧ st < 7 ∧ 1 ≤ sh ∧ sh ≤ 4 ∧ Fx b H H' ∧ BagAt H' b 5) (fun N hN => ?_) (fun σ3 H3 hC => ?_)
    · walk_at "sx"
      refine ⟨Nat.zero_le _, fun z nz1 => ?_⟩
      have ez := Ex.new nz1 (o := .lst [])
      have hA2 := keepL nb0 hA0 hA f2
      refine eqInts (ns := ns) (ms := []) (ex_l ez hA2) (.inl (.inl upd_same)) ?_
      refine ⟨_, rfl, ?_⟩
      by_cases c : ns = []
      · rw [decide_eq_true c, if_pos rfl]
        refine ⟨by decide, fun T1 nT => ?_⟩
        have eT := Ex.new nT (o := .tup [V.int 4, V.int 0, V.int 2])
        refine g_thr upd_same ?_
        simp only [List.set_cons_zero, List.set_cons_succ]
        exact hN _ _ ⟨4, 0, 2, rfl, by decide, by decide, by decide, by decide, by decide, by decide, f2.trans (Fx.of (ez.trans eT)), b2.ex (ez.trans eT)⟩
      · rw [decide_eq_false c, if_neg (by decide)]
        refine ⟨by decide, fun T1 nT => ?_⟩
        have eT := Ex.new nT (o := .tup [V.int m, V.int st, V.int sh])
        refine g_thr upd_same ?_
        simp only [List.set_cons_zero, List.set_cons_succ]
        exact hN _ _ ⟨m, st, sh, rfl, m1, m2, s0, s1, h1, h2, f2.trans (Fx.of (ez.trans eT)), b2.ex (ez.trans eT)⟩
    obtain ⟨m, st, sh, rfl, m1, m2, s0, s1, h1, h2, f3, b3⟩ := hC
    refine seq_cut (fun σ' H' => ∃ f : Addr, σ' = [some (.ref b), some (.ref a), some (.int 12), some (.int sh), some (.ref f), none, some (.int m), some (.int st), none, none, none, none] ∧ Fx b H H' ∧ BagAt H' b 5 ∧ GridN H H' f []) (fun N hN => ?_) (fun σ2 H2 hC => ?_)
    · walk_at "sx"
      refine ⟨sz_ok (by omega), fun f nf => ?_⟩
      have ef := Ex.new nf (o := .lst [])
      have nfb := b3.apart nf
      exact hN _ _ ⟨f, rfl, f3.trans (Fx.of ef), b3.ex ef, fx_none f3 nf nfb, [], upd_same, rfl, List.nodup_nil, List.not_mem_nil, fun i p e => by simp at e⟩
    obtain ⟨f, rfl, f2, b2, g2⟩ := hC
    walk_at "sx"
    refine ⟨by omega, by omega, ?_⟩
    rw [Int.toNat_natCast]
    refine lg_rng (JNe H b a m st sh) ⟨none, f, none, none, none, none, [], rfl, f2, by simpa using b2, g2, rfl, fun i r e => by simp at e⟩ (fun i σ' H' hi hP => ?_) (fun σ' H' hP => ?_)
    · obtain ⟨l5, f, l8, l9, l10, l11, G, rfl, fx, hb, gn, gl, rok⟩ := hP
      rw [show (0 : Int) + (i : Int) = (i : Int) by omega]
      simp only [x_gn, List.set_cons_zero, List.set_cons_succ]
      have mi : m * i ≤ 132 := Nat.mul_le_mul (show m ≤ 12 by omega) (show i ≤ 11 by omega)
      refine seq_asg (fun v H1 => ∃ r, v = .ref r ∧ H' r = none ∧ Ex H' H1 ∧ H1 r = some (.lst [])) (fun R hR => ?_) (fun v H1 hC => ?_)
      · walk_at "sx"
        exact ⟨sz_ok (by omega), fun r nr => hR _ _ ⟨r, rfl, nr, Ex.new nr, upd_same⟩⟩
      obtain ⟨r, rfl, nr, e1, hr⟩ := hC
      have nrb := hb.apart nr
      refine seq_cut (fun σ' H2 => ∃ l9 l10 l11 R, σ' = [some (.ref b), some (.ref a), some (.int 12), some (.int sh), some (.ref f), some (.int (i : Int)), some (.int m), some (.int st), some (.ref r), l9, l10, l11] ∧ Fx b H' H2 ∧ BagAt H2 b (5 + m * i + m) ∧ H2 r = some (.lst ((nz R).map V.int)) ∧ R.Pairwise (· < ·) ∧ (∀ x ∈ R, x < m) ∧ i ∉ R) (fun N hN => ?_) (fun σ2 H2 hC => ?_)
      · walk_at "sx"
        refine ⟨by omega, by omega, ?_⟩
        rw [Int.toNat_natCast]
        refine lg_rng (JRo H' b a m st sh f r i) ⟨l9, l10, l11, [], rfl, Fx.of e1, hb.ex e1, hr, List.Pairwise.nil, fun x h => (List.not_mem_nil h).elim, List.not_mem_nil⟩ (fun j σ' H3 hj hP => ?_) (fun σ' H3 hP => ?_)
        · obtain ⟨l9, l10, l11, R, rfl, fx3, b3, hr3, pw, lt, no⟩ := hP
          rw [show (0 : Int) + (j : Int) = (j : Int) by omega]
          simp only [x_gn, List.set_cons_zero, List.set_cons_succ]
          refine seq_asg (fun v H4 => ∃ h : Int, v = .int h ∧ Fx b H3 H4 ∧ BagAt H4 b (5 + m * i + j + 1)) (fun R' hR => ?_) (fun v H4 hC => ?_)
          · walk_at "sx"
            exact ⟨b, _, _, rfl, by omega, big_of (by omega), b3, by omega, fun r4 H4 r40 r41 f4 b4 => hR _ _ ⟨_, rfl, f4, b4⟩⟩
          obtain ⟨h, rfl, f4, b4⟩ := hC
          simp only [List.set_cons_zero, List.set_cons_succ]
          refine seq_asg (fun v H5 => ∃ a0 a1 a2 a3 a4 a5 : Bool, ∃ q, v = .ref q ∧ H4 q = none ∧ Ex H4 H5 ∧ H5 q = some (.lst [.bl a0, .bl a1, .bl a2, .bl a3, .bl a4, .bl a5])) (fun R' hR => ?_) (fun v H5 hC => ?_)
          · walk_at "sx"
            refine ⟨.inl (.inl ⟨by decide, by omega⟩), by omega, sz_ok (by omega), fun q nq => ?_⟩
            exact hR _ _ ⟨_, _, _, _, _, _, q, rfl, nq, Ex.new nq, upd_same⟩
          obtain ⟨a0, a1, a2, a3, a4, a5, q, rfl, nq, e5, hq⟩ := hC
          simp only [List.set_cons_zero, List.set_cons_succ]
          have nqb := b4.apart nq
          have hr5 := e5 _ _ (f4 _ _ nrb hr3)
          have b5 := b4.ex e5
          have f5 := f4.trans (Fx.of e5)
          obtain ⟨pk, epk⟩ : ∃ pk : Bool, atI [V.bl a0, .bl a1, .bl a2, .bl a3, .bl a4, .bl a5, .bl (decide (h < 3))] st = some (.bl pk) := by
            obtain ⟨v, hv, e⟩ := pick (xs := [V.bl a0, .bl a1, .bl a2, .bl a3, .bl a4, .bl a5, .bl (decide (h < 3))]) s0 (by simpa using s1)
            simp only [List.mem_cons, List.mem_nil_iff, or_false] at hv
            rcases hv with rfl | rfl | rfl | rfl | rfl | rfl | rfl <;> exact ⟨_, e⟩
          walk_at "sx"
          by_cases c1 : (j : Int) = (i : Int)
          · rw [decide_eq_true c1, if_neg (by decide)]
            exact ⟨_, _, _, R, rfl, fx3.trans f5, b5, hr5, pw, fun x hx => by have := lt x hx; omega, no⟩
          · rw [decide_eq_false c1, if_pos (by decide)]
            refine ⟨sz_ok (by omega), fun y ny => ?_⟩
            have ey := Ex.new ny (o := .lst [V.bl (decide (h < 3))])
            refine catL (ey _ _ hq) upd_same (sz_ok (by simp)) fun z nz1 => ?_
            have ez := ey.trans (Ex.new nz1 (o := .lst ([V.bl a0, .bl a1, .bl a2, .bl a3, .bl a4, .bl a5] ++ [V.bl (decide (h < 3))])))
            refine ixL (.inl (.inl upd_same)) epk ⟨pk, rfl, ?_⟩
            have f6 := f5.trans (Fx.of ez)
            have hr6 := ez _ _ hr5
            have b6 := b5.ex ez
            by_cases c2 : pk = true
            · rw [if_pos c2]
              have rl : R.length ≤ j := nodup_lt j (asc_nodup pw) lt
              refine ⟨tyL hr6, appL hr6 (BC.sz_lt (by rw [List.length_map, nz_len]; omega)) ?_⟩
              rw [nz_v]
              refine ⟨_, _, _, R ++ [j], rfl, (fx3.trans f6).mut nr, b6.off nrb, upd_same, ?_, fun x hx => ?_, fun hx => ?_⟩
              · rw [List.pairwise_append]
                refine ⟨pw, List.pairwise_singleton _ _, fun x hx y hy => ?_⟩
                rw [List.mem_singleton.mp hy]
                exact lt x hx
              · rcases List.mem_append.mp hx with h | h
                · have := lt x h; omega
                · rw [List.mem_singleton.mp h]; omega
              · rcases List.mem_append.mp hx with h | h
                · exact no h
                · have := List.mem_singleton.mp h
                  omega
            · rw [if_neg c2]
              exact ⟨_, _, _, R, rfl, fx3.trans f6, b6, hr6, pw, fun x hx => by have := lt x hx; omega, no⟩
        · obtain ⟨l9, l10, l11, R, rfl, fx3, b3, hr3, pw, lt, no⟩ := hP
          exact hN _ _ ⟨_, _, _, R, rfl, fx3, b3, hr3, pw, lt, no⟩
      obtain ⟨l9', l10', l11', R, rfl, f12, b12, hr2, pw, lt, no⟩ := hC
      have nw := Nw.fx hob f12
      have nrH : H r = none := fx_none fx nr nrb
      obtain ⟨xs, hf, xl, g3⟩ := gn.push nrH nr nw hr2
      walk_at "sx"
      refine ⟨tyL hf, appL hf (BC.sz_lt (by omega)) ?_⟩
      have nfb : f ≠ b := fun e => by subst e; rw [gn.1] at hob; cases hob
      refine ⟨_, f, _, _, _, _, G ++ [R], rfl, (fx.trans f12).mut gn.1, ((b12.off nfb).mono ?_), g3, by rw [List.length_append, List.length_singleton, gl], fun u x e => ?_⟩
      · have e : m * (i + 1) = m * i + m := Nat.mul_succ m i
        omega
      · by_cases hu : u < G.length
        · rw [List.getElem?_append_left hu] at e
          exact rok u x e
        · rw [List.getElem?_append_right (by omega)] at e
          have hu2 : u - G.length = 0 := by
            have := (List.getElem?_eq_some_iff.mp e).1
            rw [List.length_singleton] at this
            omega
          rw [hu2] at e
          obtain rfl : R = x := by simpa using e
          have : u = i := by omega
          subst this
          exact ⟨pw, lt, no⟩
    · obtain ⟨l5, f, l8, l9, l10, l11, G, rfl, fx, hb, gn, gl, rok⟩ := hP
      walk_at "sx"
      have mi : m * m ≤ 144 := Nat.mul_le_mul (show m ≤ 12 by omega) (show m ≤ 12 by omega)
      exact k f G _ fx (hb.mono (by omega)) gn ⟨by omega, by omega, fun i r e => (rok i r e).1, fun i r e x hx => by rw [gl]; exact (rok i r e).2.1 x hx, fun i r e => (rok i r e).2.2⟩ (by omega)
end
end LW
set_option Elab.async false
set_option linter.all false
set_option maxRecDepth 100000
set_option maxHeartbeats 4000000
namespace LW
open PySem PySem.Spec PyProof.Rows L2 BC Evl TR
local macro_rules | `(tactic| walk_at "sx") => `(tactic| try simp only [x_din, x_dnotin, x_iitemsT, x_dispT1, x_valsT, x_lockT, SL.x_yfor, SL.x_yplain, SL.x_ythen, SL.x_y0, SL.x_yyield, SL.x_ywhile, SL.x_callY, SL.x_callYK, x_gwhile, x_callG, x_g0, x_gfor, x_gplain, x_gthen, x_gyield, x_listG, x_dnewT, x_dget, x_dget2, x_dput, x_seq, x_next, x_brk, x_cnt, x_nev, x_ret, x_retN, x_drop, x_ifS, x_asg, x_gn, x_gsub, x_par, x_par3, x_aug, x_for, x_lc, x_rng1, x_rng2, x_rng3, x_ilist, x_itup, x_ienum, x_izip, x_izipA, x_istr, x_var, x_c, x_op, x_un, x_test, x_b, x_chain, x_and, x_or, x_not, x_andV, x_orV, x_notV, x_ife, x_nil, x_cons, x_lst, x_tup, x_cb, x_call, x_callK, x_bm, x_bm0, x_tru, x_sl, x_nopart, x_part, x_revL, x_I0, x_I, x_U, x_ip, x_ipC, x_eqI, x_neI, x_eqB, x_neB, x_eqS, x_neS, x_isB, x_isNB, x_lrg, x_gall, x_lenSet, x_augS, x_sortSet, x_rg1, x_rg2,
  L2.start, List.map_cons, List.map_nil, List.length_cons, List.length_nil, Nat.reduceAdd, Nat.reduceSub, Nat.sub_self, Nat.zero_add, List.replicate, List.replicate_succ, List.replicate_zero, List.append_nil, List.cons_append, List.nil_append, List.set_cons_zero, List.set_cons_succ, List.getElem?_cons_zero, List.getElem?_cons_succ, Option.some.injEq, V.int.injEq, V.bl.injEq, V.ref.injEq, V.str.injEq, List.cons.injEq, and_true, true_and, exists_eq_left', exists_eq_left, exists_and_left, exists_eq, if_true, if_false, ite_true, ite_false, Bool.true_eq_false, Bool.false_eq_true, reduceIte, reduceCtorEq, Bool.not_true, Bool.not_false, decide_true, decide_false, decide_eq_true_eq, Bool.and_true, Bool.true_and, Bool.and_self, Bool.and_false, Bool.false_and, Bool.or_self, Bool.or_false, Bool.false_or, Bool.or_true, Bool.true_or, eq_self])
section
variable {P : Program} {w : World} {K : PySem.W.Frag} {mg : Str → Option Value} {base : Heap}
def spFalse : Sp := fun _ _ _ _ => False
/-- the number of trails behind one of them, by a memo -/
def spWays (K : PySem.W.Frag) (n : Nat) : Sp := fun vs H Q _ => ∃ (s d : Addr) (G : Grid) (t : List Nat) (kvs : List (Key × V)), vs = [.ref s, .int (TF.bits t : Nat), .int (lst t : Nat), .ref d] ∧ GridAt H s G ∧ SiteOk G ∧ G.length ≤ 12 ∧ TF.TrOk G t ∧ G.length ≤ t.length + n ∧ H d = some (.dK kvs) ∧ MemoW G kvs ∧
  ∀ H' kvs', Fx d H H' → H' d = some (.dK kvs') → MemoW G kvs' → Q (.int (TF.big G t : Nat)) H'
theorem ways_base (T : Txt K mg) : FnOk P w K mg base CX0 0 T.f_law_ways T.fd_law_ways ["_law_net_here", "_law_used", "_law_last", "_law_kept"] spFalse :=
  ⟨fun _ _ _ _ h => h.elim, fun _ _ _ _ _ _ _ _ _ _ _ _ _ h => h.elim⟩
def JWy (H1 : Hp) (s d bt : Addr) (G : Grid) (t : List Nat) (i : Nat) (σ' : L2.St) (H' : Hp) : Prop := ∃ l7 kvs, σ' = [some (.ref s), some (.int (TF.bits t : Nat)), some (.int (lst t : Nat)), some (.ref d), some (.ref bt), some (.int (TF.ky t : Nat)), some (.int ((1 + ((((row G (lst t)).take i).filter fun u => decide (u ∉ t)).map fun u => TF.big G (t ++ [u])).sum : Nat) : Int)), l7] ∧ Fx d H1 H' ∧ H' d = some (.dK kvs) ∧ MemoW G kvs
theorem ways_step (T : Txt K mg) {lv n : Nat} {sp0 : Sp} (hsp : n = 0 ∨ ∃ n', n = n' + 1 ∧ sp0 = spWays K n') (G : FnOk P w K mg base CX0 lv T.f_law_ways T.fd_law_ways ["_law_net_here", "_law_used", "_law_last", "_law_kept"] sp0) :
    FnOk P w K mg base CX0 (lv + 1) T.f_law_ways T.fd_law_ways ["_law_net_here", "_law_used", "_law_last", "_law_kept"] (spWays K n) := by
  refine T.F_law_ways.ok sc_law_ways (fun vs H Q E h => ?_) (fun cdv A outer s H vs Q E hr h => ?_)
  · obtain ⟨s, d, G, t, kvs, rfl, _⟩ := h
    rfl
  · obtain ⟨s, d, G0, t, kvs, rfl, hS, ok, h12, ot, hn, hD, hM, k⟩ := h
    apply Exists.intro
    apply And.intro
    · apply pss_cons
      · exact (ps_set (i := 4) sc_law_ways.nd rfl (.inl rfl) (pe_lst (pa_cons pe_int (pa_cons pe_int (pa_cons pe_int (pa_cons pe_int (pa_cons pe_int (pa_cons pe_int (pa_cons pe_int (pa_cons pe_int (pa_cons pe_int (pa_cons pe_int (pa_cons pe_int (pa_cons pe_int pa_nil))))))))))))))
      apply pss_cons
      · exact (ps_set (i := 5) sc_law_ways.nd rfl (.inl rfl) (pe_op op_add (pe_op op_mulX (pv 1) pe_int) (pv 2)))
      apply pss_cons
      · apply ps_if
        · exact (pt_cmp (pc_dnotin (hu_of hr) (pv 5) (pv 3)))
        · apply pss_cons
          · exact (ps_set (i := 6) sc_law_ways.nd rfl (.inl rfl) pe_int)
          apply pss_cons
          · apply ps_for PassesOwn.never rfl
            · exact (k_pi_list (K := K) rfl (pe_ix (k_ix_list (K := K) rfl) (pv 0) (pv 2) (fun _ _ => rfl)))
            · exact (pg_name (i := 7) sc_law_ways.nd rfl (.inl rfl))
            · apply pss_one
              apply ps_if
              · exact (pt_cmpR op_eq (pe_op op_modX (pe_op op_fdivX (pv 1) (pe_ix (k_ix_list (K := K) rfl) (pv 4) (pv 7) (fun _ _ => rfl))) pe_int) pe_int (by rfl))
              · apply pss_one
                exact (ps_set (i := 6) sc_law_ways.nd rfl (.inl rfl) (pe_op op_add (pv 6) (pe_call G hr (by rfl) T.m_law_ways T.F_law_ways.kp T.b_law_ways .nil pass0 (pa_cons (pv 0) (pa_cons (pe_op op_add (pv 1) (pe_ix (k_ix_list (K := K) rfl) (pv 4) (pv 7) (fun _ _ => rfl))) (pa_cons (pv 7) (pa_cons (pv 3) pa_nil)))))))
              · exact pss_nil
          apply pss_one
          exact (ps_dput (hu_of hr) (pv 3) (pv 5) (pv 6) rfl)
        · exact pss_nil
      apply pss_one
      exact (ps_ret (pe_dget (hu_of hr) (pv 3) (pv 5) (fun _ _ => rfl)))
    have hky : ((TF.bits t : Nat) : Int) * 16 + ((lst t : Nat) : Int) = ((TF.ky t : Nat) : Int) := by unfold TF.ky; omega
    walk_at "sx"
    simp only [hky]
    refine ⟨by decide, fun bt nbt => ⟨.inl (.inr ⟨by decide, by decide⟩), ?_⟩⟩
    have eb := Ex.new nbt (o := .lst (([1, 2, 4, 8, 16, 32, 64, 128, 256, 512, 1024, 2048] : List Int).map V.int))
    have hb1 : (upd H bt (.lst (([1, 2, 4, 8, 16, 32, 64, 128, 256, 512, 1024, 2048] : List Int).map V.int))) bt = some (.lst (([1, 2, 4, 8, 16, 32, 64, 128, 256, 512, 1024, 2048] : List Int).map V.int)) := upd_same
    have hD1 := eb _ _ hD
    have hS1 := hS.ex eb
    have nbd : bt ≠ d := (ne_of_none hD nbt).symm
    rw [show ([V.int 1, V.int 2, V.int 4, V.int 8, V.int 16, V.int 32, V.int 64, V.int 128, V.int 256, V.int 512, V.int 1024, V.int 2048] : List V) = ([1, 2, 4, 8, 16, 32, 64, 128, 256, 512, 1024, 2048] : List Int).map V.int from rfl]
    generalize (upd H bt (.lst (([1, 2, 4, 8, 16, 32, 64, 128, 256, 512, 1024, 2048] : List Int).map V.int))) = H1 at eb hb1 hD1 hS1 ⊢
    have hlt := lst_lt ot
    have t12 := ot.len
    have fin : ∀ (H' : Hp) (kvs' : List (Key × V)), Fx d H1 H' → H' d = some (.dK kvs') → MemoW G0 kvs' → ∃ H4, DPut H' d (V.int (TF.ky t : Nat)) (.int (TF.big G0 t : Nat)) H4 ∧ ∃ v, DGet H4 d (V.int (TF.ky t : Nat)) (some v) ∧ Q v H4 := fun H' kvs' f hd hm => by
      have hl := hm.len
      refine ⟨_, DPut.k (k := keyW t) hd (BC.sz_lt (by omega)), .int (TF.big G0 t : Nat), ?_, ?_⟩
      · have := DGet.k (k := keyW t) (upd_same (H := H') (a := d) (o := .dK (putK kvs' (keyW t) (.int (TF.big G0 t : Nat)))))
        rw [valV_put, if_pos rfl] at this
        exact this
      · exact k _ _ (((Fx.of eb).trans f).trans Fx.put) upd_same (hm.put h12 ot)
    refine ⟨_, DGet.k (k := keyW t) hD1, ?_⟩
    cases hv : valV kvs (keyW t) with
    | some v =>
      have e := hM.ok t v ot hv
      subst e
      have hg := DGet.k (k := keyW t) hD1
      rw [hv] at hg
      rw [if_neg (by simp)]
      exact ⟨_, hg, k _ _ (Fx.of eb) hD1 hM⟩
    | none =>
      rw [if_pos (by rfl)]
      obtain ⟨q2, xs, q3, q4, q5, q6⟩ := hS1.get hlt
      refine ixL (.inl (.inl q3)) (atI_n rfl q5) ?_
      refine ⟨q2, rfl, ⟨_, .inl (.inl q6)⟩, ?_⟩
      have nq2 : q2 ≠ d := ne_of q6 hD1 (by intro z; cases z)
      refine lg_list (xs := (nz (row G0 (lst t))).map V.int) (JWy H1 s d bt G0 t) ⟨none, kvs, rfl, Fx.refl _ _, hD1, hM⟩ (fun i σ' H' _ hP => by obtain ⟨_, _, _, f, _⟩ := hP; exact .inl (.inl (f _ _ nq2 q6))) (fun i v σ' H' hv hP => ?_) (fun σ' H' hP => ?_)
      · obtain ⟨l7, kv, rfl, f, hd, hm⟩ := hP
        obtain ⟨y, hy, rfl⟩ := at_nz hv
        have hyr := ok.rlt (List.mem_of_getElem? hy)
        have y12 : y < 12 := by omega
        have hp := Nat.two_pow_pos y
        have hp2 : 2 ^ y ≤ 2 ^ 11 := Nat.pow_le_pow_right (by decide) (by omega)
        have e : (((TF.bits t : Nat) : Int) / ((2 ^ y : Nat) : Int)) % 2 = ((TF.bits t / 2 ^ y % 2 : Nat) : Int) := by rw [Int.natCast_emod, Int.natCast_ediv]; rfl
        have hbb := TF.hb_bits t.length (Nat.le_refl _) ot.nd y
        unfold TF.hb at hbb
        have hbb := decide_eq_decide.mp hbb
        simp only [x_gn, List.set_cons_zero, List.set_cons_succ]
        walk_at "sx"
        refine ixL (.inl (.inl (f _ _ nbd hb1))) (atI_n (j := y) (by rfl) (bit_at y12)) ?_
        walk_at "sx"
        refine ⟨⟨by omega, Nat.lt_of_le_of_lt (Nat.log2_le_self _) (by omega)⟩, by decide, ?_⟩
        rw [e]
        have tk : (row G0 (lst t)).take (i + 1) = (row G0 (lst t)).take i ++ [y] := by rw [List.take_add_one, hy]; rfl
        by_cases c : y ∈ t
        · rw [if_neg (by rw [hbb.mpr c]; decide)]
          refine ⟨some (.int (y : Nat)), kv, ?_, f, hd, hm⟩
          rw [tk, List.filter_append, List.filter_cons_of_neg (by simpa using c), List.filter_nil, List.append_nil]
        · have e0 : TF.bits t / 2 ^ y % 2 = 0 := by
            have : ¬ TF.bits t / 2 ^ y % 2 = 1 := fun z => c (hbb.mp z)
            omega
          rw [if_pos (by rw [e0]; rfl)]
          have hk : y ∈ TF.kids G0 t := List.mem_filter.mpr ⟨List.mem_of_getElem? hy, decide_eq_true c⟩
          have otk := ot.kid ok hk
          have lk := otk.len
          rw [List.length_append, List.length_singleton] at lk
          obtain ⟨n', rfl, rfl⟩ : ∃ n', n = n' + 1 ∧ sp0 = spWays K n' := by
            rcases hsp with q | q
            · omega
            · exact q
          walk_at "sx"
          refine ixL (.inl (.inl (f _ _ nbd hb1))) (atI_n (j := y) (by rfl) (bit_at y12)) ?_
          walk_at "sx"
          have hS3 : GridAt H' s G0 := by
            obtain ⟨ps, p1, p2, p3⟩ := hS1
            exact ⟨ps, f _ _ (ne_of p1 hD1 (by intro z; cases z)) p1, p2, fun j q hq => f _ _ (ne_of (p3 j q hq) hD1 (by intro z; cases z)) (p3 j q hq)⟩
          refine ⟨s, d, G0, t ++ [y], kv, by rw [TF.bits_snoc, TF.lst_snoc, Int.natCast_add], hS3, ok, h12, otk, by rw [List.length_append, List.length_singleton]; omega, hd, hm, fun H4 kv2 f4 hd4 hm4 => ?_⟩
          refine x_I0.mpr ⟨some (.int (y : Nat)), kv2, ?_, f.trans f4, hd4, hm4⟩
          rw [tk, List.filter_append, List.filter_cons_of_pos (by simpa using c), List.filter_nil, List.map_append, List.sum_append, List.map_singleton, List.sum_singleton, ← Nat.add_assoc, Int.natCast_add (_ + _)]
      · obtain ⟨l7, kv, rfl, f, hd, hm⟩ := hP
        have hbig : 1 + ((((row G0 (lst t)).take ((nz (row G0 (lst t))).map V.int).length).filter fun u => decide (u ∉ t)).map fun u => TF.big G0 (t ++ [u])).sum = TF.big G0 t := by
          rw [List.length_map, nz_len, List.take_length, TF.big_eq ok ot]
          rfl
        rw [hbig]
        walk_at "sx"
        exact fin _ kv f hd hm
theorem ways_all (T : Txt K mg) : ∀ n : Nat, FnOk P w K mg base CX0 (n + 1) T.f_law_ways T.fd_law_ways ["_law_net_here", "_law_used", "_law_last", "_law_kept"] (spWays K n)
  | 0 => ways_step T (.inl rfl) (ways_base T)
  | n + 1 => ways_step T (.inr ⟨n, rfl, rfl⟩) (ways_all T n)
theorem ok_law_ways (T : Txt K mg) : FnOk P w K mg base CX0 13 T.f_law_ways T.fd_law_ways ["_law_net_here", "_law_used", "_law_last", "_law_kept"] (spWays K 12) := ways_all T 12
end
section
variable {P : Program} {w : World} {K : PySem.W.Frag} {mg : Str → Option Value} {base : Heap}
theorem lc_rngT79 {σ : L2.St} {H1 : Hp} {g : TG} {tt : TT} {te : TE} {vs : List Nat} {Dl : Addr} {Q : VK} {lo : Int} {n : Nat} (Pv : Nat → Hp → Prop) (h0 : Pv 0 (upd H1 Dl (.lst [])))
    (hs : ∀ i H, i < n → Pv i H → g (.int (lo + i)) (wipe σ vs) H fun σ2 H2 => wipe σ2 vs = wipe σ vs ∧ tt σ2 H2 fun b H3 => if b = true then te σ2 H3 fun y H4 => ∃ acc, H4 Dl = some (.lst acc) ∧ acc.length < sizeLine ∧ Pv (i + 1) (upd H4 Dl (.lst (acc ++ [y]))) else Pv (i + 1) H3)
    (hd : ∀ H, Pv n H → Q (.ref Dl) H) : LcG (Itr lo n) g tt te vs σ Dl H1 Q := by
  refine lc_g n Pv h0 (fun H h => Nat.le_refl _) (fun i H hi h => hi) (fun i H x H' hi h y => ?_) hd
  obtain ⟨rfl, rfl⟩ := y
  exact hs i _ hi h
def spFull : Sp := fun vs H Q _ => ∃ n : Nat, vs = [.int n] ∧ n ∈ [4, 9, 12] ∧ ∀ H', Ex H H' → Q (.bl true) H'
theorem full_at {n i : Nat} (h : i < n) : (TF.full n)[i]? = some ((List.range n).filter fun j => decide (j ≠ i)) := by
  unfold TF.full
  rw [List.getElem?_map, List.getElem?_range h]
  rfl
theorem full_ok {n : Nat} (h1 : 1 ≤ n) (h2 : n ≤ 12) : SiteOk (TF.full n) := by
  have at_ : ∀ (i : Nat) (r : List Nat), (TF.full n)[i]? = some r → r = (List.range n).filter fun j => decide (j ≠ i) := fun i r h => by
    have hi := (List.getElem?_eq_some_iff.mp h).1
    rw [TF.full_len] at hi
    rw [full_at hi] at h
    exact (Option.some.inj h).symm
  refine ⟨by rw [TF.full_len]; exact h1, by rw [TF.full_len]; exact h2, fun i r h => ?_, fun i r h x hx => ?_, fun i r h m => ?_⟩
  · rw [at_ i r h]
    exact List.pairwise_lt_range.filter _
  · rw [at_ i r h] at hx
    rw [TF.full_len]
    exact List.mem_range.mp (List.mem_filter.mp hx).1
  · rw [at_ i r h] at m
    exact of_decide_eq_true (List.mem_filter.mp m).2 rfl
def JFu (H : Hp) (n : Nat) (i : Nat) (σ' : L2.St) (H' : Hp) : Prop := ∃ l1, σ' = [some (.int (n : Nat)), l1, none, some (.int (TF.ltot n i : Nat)), some (.int (TF.lprod n i : Nat)), none, none] ∧ Ex H H'
theorem ok_law_full_right (T : Txt K mg) : FnOk P w K mg base CX0 6 T.f_law_full_right T.fd_law_full_right ["_law_size"] spFull := by
  refine T.F_law_full_right.ok sc_law_full_right (fun vs H Q E h => ?_) (fun cdv A outer s H vs Q E hr h => ?_)
  · obtain ⟨n, rfl, _⟩ := h
    rfl
  · obtain ⟨n, rfl, hn, k⟩ := h
    apply Exists.intro
    apply And.intro
    · apply pss_cons
      · exact (ps_asg (pe_tup (pa_cons pe_int (pa_cons pe_int pa_nil))) (k_tup (K := K) (n := 2) rfl rfl (pgs_cons (pg_name (i := 3) sc_law_full_right.nd rfl (.inl rfl)) (pgs_cons (pg_name (i := 4) sc_law_full_right.nd rfl (.inl rfl)) pgs_nil))))
      apply pss_cons
      · apply ps_for PassesOwn.never rfl
        · exact (pi_range2 (by rfl) T.n_range (pa_cons pe_int (pa_cons (pe_op op_add (pv 0) pe_int) pa_nil)))
        · exact (pg_name (i := 1) sc_law_full_right.nd rfl (.inl rfl))
        · apply pss_cons
          · exact (ps_set (i := 3) sc_law_full_right.nd rfl (.inl rfl) (pe_op op_add (pv 3) (pv 4)))
          apply pss_one
          exact (ps_set (i := 4) sc_law_full_right.nd rfl (.inl rfl) (pe_op op_mulX (pv 4) (pe_op op_sub (pv 0) (pv 1))))
      apply pss_cons
      · exact (ps_setLc (i := 2) (own := [("_law_spot", 5)]) rfl sc_law_full_right.nd rfl rfl (sw_true rfl rfl rfl (by decide +kernel)) (pi_range1 (by rfl) T.n_range (pa_cons (pv 0) pa_nil)) (blkOk_by (own := [("_law_spot", 5)]) (N := ["_law_size", "_law_less", "_law_net_here", "_law_total", "_law_product", "_law_spot", "_law_far"]) (sc := defScope s_law_full_right) (by decide +kernel)) (fun _ _ _ _ _ => by exact (pg_name (i := 5) sc_law_full_right.nd rfl (by first | exact .inl rfl | exact .inr rfl))) (fun _ _ _ _ _ => by exact pts_nil) (fun _ _ _ _ _ => by exact (pe_lc (own := [("_law_far", 6)]) rfl sc_law_full_right.nd (pi_range1 (by rfl) T.n_range (pa_cons (pv 0) pa_nil)) (blkOk_by (own := [("_law_far", 6)]) (N := ["_law_size", "_law_less", "_law_net_here", "_law_total", "_law_product", "_law_spot", "_law_far"]) (by kernel_rfl)) (fun _ _ _ _ _ => by exact (pg_name (i := 6) sc_law_full_right.nd rfl (.inl rfl))) (fun _ _ _ _ _ => by exact (pts_one (pt_cmpR op_ne (pv 6) (pv 5) (by rfl)))) (fun _ _ _ _ _ => by exact (pv 6)))))
      apply pss_one
      exact (ps_ret (pe_cmpR op_eq (pe_call (ok_count_trails T) (hr.mono (by decide)) (by rfl) T.m_count_trails T.F_count_trails.kp T.b_count_trails .nil pass0 (pa_cons (pv 2) (pa_cons (pe_op op_sub (pv 0) pe_int) pa_nil))) (pv 3) (by rfl)))
    have n12 : 4 ≤ n ∧ n ≤ 12 := by
      simp only [List.mem_cons, List.mem_nil_iff, or_false] at hn
      omega
    walk_at "sx"
    refine ⟨by decide, fun T0 nT => ?_⟩
    have eT := Ex.new nT (o := .tup [V.int 0, V.int 1])
    refine g_two upd_same ?_
    simp only [List.set_cons_zero, List.set_cons_succ]
    refine seq_cut (fun σ' H' => ∃ l1, σ' = [some (.int (n : Nat)), l1, none, some (.int (TF.ltot n n : Nat)), some (.int (TF.lprod n n : Nat)), none, none] ∧ Ex H H') (fun N hN => ?_) (fun σ1 H1 hC => ?_)
    · walk_at "sx"
      refine ⟨_, _, ⟨rfl, rfl⟩, ⟨by omega, by omega, by omega, by omega⟩, ?_⟩
      rw [show ((n : Int) + 1 - 1).toNat = n by omega]
      refine lg_rng (JFu H n) ⟨none, rfl, eT⟩ (fun i σ' H' hi hP => ?_) (fun σ' H' hP => by obtain ⟨l1, rfl, e⟩ := hP; exact hN _ _ ⟨_, rfl, e⟩)
      obtain ⟨l1, rfl, e⟩ := hP
      simp only [x_gn, List.set_cons_zero, List.set_cons_succ]
      walk_at "sx"
      refine ⟨.inl (.inr ⟨by omega, by omega⟩), ?_⟩
      refine ⟨some (.int (1 + (i : Int))), ?_, e⟩
      have e1 : ((TF.ltot n i : Nat) : Int) + ((TF.lprod n i : Nat) : Int) = ((TF.ltot n (i + 1) : Nat) : Int) := (Int.natCast_add _ _).symm
      have e2 : ((TF.lprod n i : Nat) : Int) * ((n : Int) - (1 + (i : Int))) = ((TF.lprod n (i + 1) : Nat) : Int) := by
        rw [show ((n : Int) - (1 + (i : Int))) = ((n - (i + 1) : Nat) : Int) by omega]
        exact (Int.natCast_mul _ _).symm
      rw [e1, e2]
    obtain ⟨l1, rfl, e1⟩ := hC
    refine seq_asg (fun v H' => ∃ s, v = .ref s ∧ Ex H1 H' ∧ GridN H1 H' s (TF.full n)) (fun R hR => ?_) (fun v H2 hC => ?_)
    · walk_at "sx"
      refine ⟨by omega, by omega, fun D nD => ?_⟩
      refine lc_rngE (fun i H' => Ex H1 H' ∧ GridN H1 H' D ((TF.full n).take i)) ⟨Ex.new nD, GridN.nil nD⟩ (fun i HA hi hP => ?_) (fun HA hP => ?_)
      · obtain ⟨eP, gP⟩ := hP
        have hi : i < n := hi
        refine ⟨rfl, ?_⟩
        simp only [wipe, List.set_cons_zero, List.set_cons_succ]
        rw [show (0 : Int) + (i : Int) = (i : Int) by omega]
        walk_at "sx"
        refine ⟨by omega, by omega, fun D2 nD2 => ?_⟩
        refine lc_rngT79 (fun j HB => Ex HA HB ∧ HB D2 = some (.lst ((nz ((List.range j).filter fun x => decide (x ≠ i))).map V.int))) ⟨Ex.new nD2, upd_same⟩ (fun j HB hj hP2 => ?_) (fun HB hP2 => ?_)
        · obtain ⟨eB, hD2⟩ := hP2
          have hj : j < n := hj
          refine ⟨rfl, ?_⟩
          simp only [wipe, List.set_cons_zero, List.set_cons_succ]
          rw [show (0 : Int) + (j : Int) = (j : Int) by omega]
          walk_at "sx"
          have fl := List.length_filter_le (fun x => decide (x ≠ i)) (List.range j)
          rw [List.length_range] at fl
          by_cases c : j = i
          · rw [if_neg (by simp [c])]
            refine ⟨eB, ?_⟩
            rw [List.range_succ, List.filter_append, List.filter_cons_of_neg (by simp [c]), List.filter_nil, List.append_nil]
            exact hD2
          · rw [if_pos (by simp; omega)]
            refine ⟨_, hD2, BC.sz_lt (by rw [List.length_map, nz_len]; omega), eB.mut nD2, ?_⟩
            rw [List.range_succ, List.filter_append, List.filter_cons_of_pos (by simpa using c), List.filter_nil, upd_same, TF.nz_append, List.map_append]
            rfl
        · obtain ⟨eB, hD2⟩ := hP2
          rw [Int.toNat_natCast] at hD2
          obtain ⟨ys, h1, h2, g2⟩ := gP.push (r := (List.range n).filter fun x => decide (x ≠ i)) (fresh_back eP nD2) nD2 (Nw.of eB) hD2
          refine ⟨ys, h1, BC.sz_lt (by rw [h2, List.length_take]; omega), (eP.trans eB).mut nD, ?_⟩
          rw [List.take_add_one, full_at hi]
          exact g2
      · obtain ⟨eP, gP⟩ := hP
        rw [List.take_of_length_le (by rw [TF.full_len]; omega)] at gP
        exact hR _ _ ⟨D, rfl, eP, gP⟩
    obtain ⟨s, rfl, e2, g2⟩ := hC
    simp only [List.set_cons_zero, List.set_cons_succ]
    walk_at "sx"
    refine ⟨s, TF.full n, n - 1, by rw [show ((n : Int) - 1) = ((n - 1 : Nat) : Int) by omega], g2.at, full_ok (by omega) n12.2, by rw [TF.full_len]; omega, by rw [TF.full_len]; omega, fun H3 e3 => ?_⟩
    have ok := full_ok (n := n) (by omega) n12.2
    have hp : n - 1 < (TF.full n).length := by rw [TF.full_len]; omega
    rw [TF.all_len ok (asc_of ok) hp, TF.full_big ok (n - 1) (TF.one_ok hp) (by rw [List.length_singleton]; omega), ← TF.tot_bnd n hn]
    walk_at "sx"
    exact k _ (e1.trans (e2.trans e3))
end
end LW
set_option Elab.async false
set_option linter.all false
set_option maxRecDepth 100000
set_option maxHeartbeats 4000000
namespace LW
open PySem PySem.Spec PyProof.Rows L2 BC Evl TR
local macro_rules | `(tactic| walk_at "sx") => `(tactic| try simp only [x_din, x_dnotin, x_iitemsT, x_dispT1, x_valsT, x_lockT, SL.x_yfor, SL.x_yplain, SL.x_ythen, SL.x_y0, SL.x_yyield, SL.x_ywhile, SL.x_callY, SL.x_callYK, x_gwhile, x_callG, x_g0, x_gfor, x_gplain, x_gthen, x_gyield, x_listG, x_dnewT, x_dget, x_dget2, x_dput, x_seq, x_next, x_brk, x_cnt, x_nev, x_ret, x_retN, x_drop, x_ifS, x_asg, x_gn, x_gsub, x_par, x_par3, x_aug, x_for, x_lc, x_rng1, x_rng2, x_rng3, x_ilist, x_itup, x_ienum, x_izip, x_izipA, x_istr, x_var, x_c, x_op, x_un, x_test, x_b, x_chain, x_and, x_or, x_not, x_andV, x_orV, x_notV, x_ife, x_nil, x_cons, x_lst, x_tup, x_cb, x_call, x_callK, x_bm, x_bm0, x_tru, x_sl, x_nopart, x_part, x_revL, x_I0, x_I, x_U, x_ip, x_ipC, x_eqI, x_neI, x_eqB, x_neB, x_eqS, x_neS, x_isB, x_isNB, x_lrg, x_gall, x_lenSet, x_augS, x_sortSet, x_rg1, x_rg2,
  L2.start, List.map_cons, List.map_nil, List.length_cons, List.length_nil, Nat.reduceAdd, Nat.reduceSub, Nat.sub_self, Nat.zero_add, List.replicate, List.replicate_succ, List.replicate_zero, List.append_nil, List.cons_append, List.nil_append, List.set_cons_zero, List.set_cons_succ, List.getElem?_cons_zero, List.getElem?_cons_succ, Option.some.injEq, V.int.injEq, V.bl.injEq, V.ref.injEq, V.str.injEq, List.cons.injEq, and_true, true_and, exists_eq_left', exists_eq_left, exists_and_left, exists_eq, if_true, if_false, ite_true, ite_false, Bool.true_eq_false, Bool.false_eq_true, reduceIte, reduceCtorEq, Bool.not_true, Bool.not_false, decide_true, decide_false, decide_eq_true_eq, Bool.and_true, Bool.true_and, Bool.and_self, Bool.and_false, Bool.false_and, Bool.or_self, Bool.or_false, Bool.false_or, Bool.or_true, Bool.true_or, eq_self])
section
variable {P : Program} {w : World} {K : PySem.W.Frag} {mg : Str → Option Value} {base : Heap}
/-- the first trails from a page, one behind the other -/
def spFirst (K : PySem.W.Frag) : Sp := fun vs H Q _ => ∃ (s : Addr) (G : Grid) (p : Nat), vs = [.ref s, .int p, .int 150] ∧ GridAt H s G ∧ SiteOk G ∧ p < G.length ∧ G.length ≤ 12 ∧ ∀ f H', GridN H H' f ((TF.all G p).take 150) → Ex H H' → Q (.ref f) H'
def JFr (H : Hp) (s : Addr) (G : Grid) (p : Nat) (f : Addr) (i : Nat) (σ' : L2.St) (H' : Hp) : Prop := i ≤ 150 ∧ Ex H H' ∧
  ((i < (TF.all G p).length ∧ ∃ (r : Addr) (Hb : Hp), σ' = [some (.ref s), some (.int p), some (.int 150), some (.ref f), some (.ref r)] ∧ GridN H Hb f ((TF.all G p).take i) ∧ H r = none ∧ Hb r = none ∧ Ex Hb H' ∧ H' r = some (.lst ((nz (row (TF.all G p) i)).map V.int))) ∨
   (i = (TF.all G p).length ∧ σ' = [some (.ref s), some (.int p), some (.int 150), some (.ref f), some .non] ∧ GridN H H' f (TF.all G p)))
theorem ok_law_first (T : Txt K mg) : FnOk P w K mg base CX0 2 T.f_law_first T.fd_law_first ["_law_net_here", "_law_spot", "_law_count"] (spFirst K) := by
  refine T.F_law_first.ok sc_law_first (fun vs H Q E h => ?_) (fun cdv A outer s H vs Q E hr h => ?_)
  · obtain ⟨s, G, p, rfl, _⟩ := h
    rfl
  · obtain ⟨s, G, p, rfl, hS, ok, hp, h6, k⟩ := h
    apply Exists.intro
    apply And.intro
    · apply pss_cons
      · exact (ps_par (i := 3) (j := 4) (by rfl) sc_law_first.nd rfl rfl (by decide) rfl rfl (pa_cons (pe_lst pa_nil) (pa_cons (pe_lst (pa_cons (pv 1) pa_nil)) pa_nil)) (by rfl))
      apply pss_cons
      · apply ps_while PassesOwn.never
        · exact (PW.pt (pw_and (pt_cmpR op_notN (pv 4) pe_non (by rfl)) (pw_and1 (pt_cmpR op_lt (pe_callB (k_len (K := K) rfl) (by rfl) T.n_len PySem.boot_len (pa_cons (pv 3) pa_nil)) (pv 2) (by rfl)))))
        · apply pss_cons
          · exact (ps_expr (k_bm (K := K) rfl (pe_bm PySem.F.plainAttrs_list PySem.F.slot_list_append PySem.F.type_list_append mt_append (pv 3) (pa_cons (pv 4) pa_nil))))
          apply pss_one
          exact (ps_set (i := 4) sc_law_first.nd rfl (.inl rfl) (pe_call (ok_law_behind T) (hr.mono (by decide)) (by rfl) T.m_law_behind T.F_law_behind.kp T.b_law_behind .nil pass0 (pa_cons (pv 0) (pa_cons (pv 4) pa_nil))))
      apply pss_one
      exact (ps_ret (pv 3))
    walk_at "sx"
    refine ⟨sz_ok (by omega), fun f nf => ⟨sz_ok (by omega), fun r nr => ?_⟩⟩
    have ef := Ex.new nf (o := .lst [])
    have er := Ex.new nr (o := .lst [V.int (p : Nat)])
    have npos : 0 < (TF.all G p).length := by rw [TF.all_len ok (asc_of ok) hp]; exact TF.big_pos ok (TF.one_ok hp)
    refine ⟨_, _, ⟨rfl, rfl⟩, fun m σ' H' => ∃ i, m = 150 - i ∧ JFr H s G p f i σ' H', ⟨_, 0, rfl, Nat.zero_le _, ef.trans er, .inl ⟨npos, r, _, rfl, GridN.nil nf, fresh_back ef nr, nr, er, by rw [upd_same, row_at TF.all_zero]; rfl⟩⟩, fun m σ' H' hW => ?_⟩
    obtain ⟨i, rfl, i150, e, hJ⟩ := hW
    rcases hJ with ⟨hi, r, Hb, rfl, gf, nrH, nrb, eb, hr⟩ | ⟨rfl, rfl, gf⟩
    · walk_at "sx"
      obtain ⟨n0, ps0, f1, f2, f3⟩ := id gf
      have hlen : ps0.length = i := by rw [f2, List.length_take]; omega
      refine lenL (.inl (.inl (eb _ _ f1))) ?_
      rw [List.length_map, hlen]
      walk_at "sx"
      by_cases c : i = 150
      · rw [if_neg (by omega)]
        subst c
        exact k f _ (gf.ex eb) e
      rw [if_pos (by omega)]
      refine ⟨fun σ' H' => JFr H s G p f (i + 1) σ' H', fun σ' H' hJ => ⟨150 - (i + 1), by omega, i + 1, rfl, hJ⟩, ?_⟩
      obtain ⟨t, ht⟩ : ∃ t, (TF.all G p)[i]? = some t := ⟨_, List.getElem?_eq_getElem hi⟩
      obtain ⟨okt, hnx⟩ := TF.all_next ok (asc_of ok) hp ht
      have nfH : H f = none := gf.1
      obtain ⟨ys, h1, h2, g2⟩ := gf.push (r := row (TF.all G p) i) nrH nrb (Nw.of eb) hr
      have nrf : r ≠ f := fun z => by
        obtain ⟨_, ps, q1, _⟩ := gf
        rw [z, q1] at nrb
        cases nrb
      rw [row_at ht] at hr g2
      have tk : (TF.all G p).take (i + 1) = (TF.all G p).take i ++ [t] := by rw [List.take_add_one, ht]; rfl
      rw [← tk] at g2
      refine ⟨tyL h1, appL h1 (BC.sz_lt (by rw [h2, List.length_take]; omega)) ?_⟩
      have e2 : Ex H (upd H' f (.lst (ys ++ [.ref r]))) := e.mut nfH
      have hr2 : (upd H' f (.lst (ys ++ [.ref r]))) r = some (.lst ((nz t).map V.int)) := by rw [upd_ne nrf]; exact hr
      generalize upd H' f (.lst (ys ++ [.ref r])) = H2 at e2 hr2 g2 ⊢
      refine ⟨s, r, G, t, rfl, hS.ex e2, ok, okt, hr2, fun u q H3 hu nq e3 hq => ?_, fun H3 hn e3 => ?_⟩
      · rw [hu] at hnx
        have hi2 := (List.getElem?_eq_some_iff.mp hnx).1
        exact ⟨by omega, e2.trans e3, .inl ⟨hi2, q, H2, rfl, g2, fresh_back e2 nq, nq, e3, by rw [row_at hnx]; exact hq⟩⟩
      · rw [hn] at hnx
        have hi2 := List.getElem?_eq_none_iff.mp hnx
        have hi3 : i + 1 = (TF.all G p).length := by omega
        rw [hi3, List.take_of_length_le (Nat.le_refl _)] at g2
        exact ⟨by omega, e2.trans e3, .inr ⟨hi3, rfl, g2.ex e3⟩⟩
    · walk_at "sx"
      exact k f _ (by rw [List.take_of_length_le i150]; exact gf) e
end
section
variable {P : Program} {w : World} {K : PySem.W.Frag} {mg : Str → Option Value} {base : Heap}
theorem site_small {G : Grid} (h : SiteOk G) : ∀ r ∈ G, r.length ≤ 12 ∧ ∀ x ∈ r, x < 12 := fun r m => by
  obtain ⟨i, hi, e⟩ := List.getElem_of_mem m
  have e' := List.getElem?_eq_some_iff.mpr ⟨hi, e⟩
  have n2 := h.n2
  exact ⟨h.len e', fun x hx => by have := h.lt i r e' x hx; omega⟩
theorem reprG {H : Hp} {Q : VK} {s : Addr} {G : Grid} (hs : GridAt H s G) (ok : SiteOk G) (q : Q (.str (dG G).shown) H) : rRepr K [.ref s] H Q := by
  have sm := site_small ok
  have n2 := ok.n2
  have hd : Dp K H (.ref s) (dLL (G.map nz)) := by rw [← dG_LL]; exact hs.dp
  refine reprLL (n := 12) hd (fun l hl x hx => ?_) (fun l hl => ?_) (by rw [List.length_map]; omega) (by rw [← dG_LL]; exact q)
  · obtain ⟨r, hr, rfl⟩ := List.mem_map.mp hl
    obtain ⟨y, hy, rfl⟩ := List.mem_map.mp hx
    have := (sm r hr).2 y hy
    omega
  · obtain ⟨r, hr, rfl⟩ := List.mem_map.mp hl
    rw [nz_len]
    exact (sm r hr).1
end
section
variable {P : Program} {w : World} {K : PySem.W.Frag} {mg : Str → Option Value} {base : Heap}
theorem all_ok {G : Grid} (ok : SiteOk G) {p : Nat} (hp : p < G.length) {l : List Int} (m : l ∈ (TF.all G p).map nz) : l.length ≤ 12 ∧ ∀ x ∈ l, x.natAbs < 10 ^ 12 := by
  obtain ⟨t, ht, rfl⟩ := List.mem_map.mp m
  obtain ⟨i, hi⟩ := List.getElem?_of_mem ht
  have okt := (TF.all_next ok (asc_of ok) hp hi).1
  have n2 := ok.n2
  have tl := okt.len
  refine ⟨by rw [nz_len]; omega, fun x hx => ?_⟩
  unfold nz at hx
  obtain ⟨y, hy, rfl⟩ := List.mem_map.mp hx
  have := okt.lt y hy
  omega
theorem reprN {H : Hp} {Q : VK} {n : Int} (h : n.natAbs < 10 ^ 38) (q : Q (.str (PyData.int n).shown) H) : rReprA K [.int n] H Q := reprA (.int n) (Gd.int h) (by omega) (by omega) q
theorem reprFew {H : Hp} {Q : VK} {f : Addr} {G : Grid} {p : Nat} (g : GridAt H f ((TF.all G p).take 150)) (ok : SiteOk G) (hp : p < G.length) (q : Q (.str (dG ((TF.all G p).take 150)).shown) H) : rRepr K [.ref f] H Q := by
  have hd : Dp K H (.ref f) (dLL (((TF.all G p).take 150).map nz)) := by rw [← dG_LL]; exact g.dp
  have sub : ∀ l ∈ ((TF.all G p).take 150).map nz, l ∈ (TF.all G p).map nz := fun l m => by
    obtain ⟨t, ht, rfl⟩ := List.mem_map.mp m
    exact List.mem_map.mpr ⟨t, List.mem_of_mem_take ht, rfl⟩
  exact reprLL (n := 12) hd (fun l m => (all_ok ok hp (sub l m)).2) (fun l m => (all_ok ok hp (sub l m)).1) (by rw [List.length_map, List.length_take]; omega) (by rw [← dG_LL]; exact q)
theorem carryK {H Hr H1 Hc H1c : Hp} (kept : Kept H Hr H1) (lk : SL.Lk Hr H1 Hc H1c) {b : Addr} {o : HO} (h : Hc b = some o) (c : H b ≠ none ∨ ∀ F : List Addr, o ≠ .lst (F.map V.ref)) : H1c b = some o := by
  rcases lk b o h with ⟨h1, h2⟩ | h1
  · exact h2 _ (kept b o h1 c)
  · exact h1
theorem no_refs {t : List Nat} (h : t ≠ []) (F : List Addr) : HO.lst ((nz t).map V.int) ≠ HO.lst (F.map V.ref) := fun e => by
  have e := HO.lst.inj e
  cases t with
  | nil => exact h rfl
  | cons x t =>
    cases F with
    | nil => cases e
    | cons y F =>
      rw [show nz (x :: t) = (x : Int) :: nz t from rfl, List.map_cons, List.map_cons] at e
      exact nomatch (List.cons.inj e).1
def spRight (K : PySem.W.Frag) : Sp := fun vs H Q _ => ∃ (s : Addr) (G : Grid) (p : Nat), vs = [.ref s, .int p] ∧ GridAt H s G ∧ SiteOk G ∧ p < G.length ∧ G.length ≤ 12 ∧ ∀ H', Ex H H' → Q (.bl true) H'
def TrsAt (H : Hp) (G : Grid) (p : Nat) (ps : List Addr) : Prop := ∀ (j : Nat) (r : Addr), ps[j]? = some r → H r = some (.lst ((nz (row (TF.all G p) j)).map V.int))
theorem turnK {H2 H3 Hr H5 Hc H1c : Hp} {S : Addr} {G : Grid} {p : Nat} {ps : List Addr} (ok : SiteOk G) (hp : p < G.length) (e3 : Ex H2 H3) (hS : H3 S ≠ none) (kept : Kept H3 Hr H5) (lk : SL.Lk Hr H5 Hc H1c) (e : Ex H2 Hc) (hs : Hc S = some (.lst (ps.map V.ref))) (hl : ps.length ≤ (TF.all G p).length) (hr : TrsAt Hc G p ps) :
    Ex H2 H1c ∧ H1c S = some (.lst (ps.map V.ref)) ∧ TrsAt H1c G p ps :=
  ⟨fun b o h => carryK kept lk (e b o h) (.inl fun z => by rw [e3 b o h] at z; cases z), carryK kept lk hs (.inl hS), fun j r h => by
    have hj := (List.getElem?_eq_some_iff.mp h).1
    obtain ⟨t, ht⟩ : ∃ t, (TF.all G p)[j]? = some t := ⟨_, List.getElem?_eq_getElem (by omega)⟩
    have okt := (TF.all_next ok (asc_of ok) hp ht).1
    have q := hr j r h
    rw [row_at ht] at q ⊢
    exact carryK kept lk q (.inr (no_refs okt.ne))⟩
def JRt (H2 : Hp) (s d S : Addr) (b5 : Str) (G : Grid) (p : Nat) (i : Nat) (σ : L2.St) (H' : Hp) : Prop := ∃ told ps, σ = [some (.ref s), some (.int p), some (.ref S), told, none, none, some (.str b5), some (.ref d)] ∧ Ex H2 H' ∧ H' S = some (.lst ((ps : List Addr).map V.ref)) ∧ ps.length = i ∧ i < 150 ∧ i ≤ (TF.all G p).length ∧ TrsAt H' G p ps
def JEnd (H2 : Hp) (s d S : Addr) (b5 : Str) (G : Grid) (p : Nat) (σ : L2.St) (H' : Hp) : Prop := ∃ told, σ = [some (.ref s), some (.int p), some (.ref S), told, none, none, some (.str b5), some (.ref d)] ∧ Ex H2 H' ∧ GridAt H' S ((TF.all G p).take 150)
theorem ok_law_right (T : Txt K mg) : FnG P w K mg base CX0 14 T.f_law_right T.fd_law_right ["_law_net_here", "_law_spot"] (spRight K) := by
  refine fun_okN T.F_law_right sc_law_right (fun vs H Q E h => ?_) (fun cdv A outer s H vs Q E hG hr h => ?_)
  · obtain ⟨s, G, p, rfl, _⟩ := h
    rfl
  · obtain ⟨s, G, p, rfl, hS, ok, hp, h6, k⟩ := h
    apply Exists.intro
    apply And.intro
    · apply pss_cons
      · exact (ps_par (i := 6) (j := 7) (by rfl) sc_law_right.nd rfl rfl (by decide) rfl rfl (pa_cons (pe_callB (k_repr (K := K) rfl hG hr.units) (by rfl) T.n_repr (by decide +kernel) (pa_cons (pv 0) pa_nil)) (pa_cons (pe_call (ok_law_first T) (hr.mono (by decide)) (by rfl) T.m_law_first T.F_law_first.kp T.b_law_first .nil pass0 (pa_cons (pv 0) (pa_cons (pv 1) (pa_cons pe_int pa_nil)))) pa_nil)) (by rfl))
      apply pss_cons
      · exact (ps_set (i := 2) sc_law_right.nd rfl (.inl rfl) (pe_lst pa_nil))
      apply pss_cons
      · apply SL.ps_forY (k := 5) PassesOwn.never (by first | exact fun _ _ _ _ h => h | exact SL.xeok_cx | exact SL.xeok_cx0) rfl rfl rfl (hr.mono (by decide))
        · exact (SL.pgy_call (okY_trails_from T) (hr.mono (by decide)) (by rfl) T.m_trails_from T.F_trails_from.kp T.b_trails_from .nil (pa_cons (pv 0) (pa_cons (pv 1) pa_nil)))
        · exact (pg_name (i := 3) sc_law_right.nd rfl (.inl rfl))
        · apply pss_cons
          · exact (ps_expr (k_bm (K := K) rfl (pe_bm PySem.F.plainAttrs_list PySem.F.slot_list_append PySem.F.type_list_append mt_append (pv 2) (pa_cons (pv 3) pa_nil))))
          apply pss_one
          apply ps_if
          · exact (pt_cmpR op_eq (pe_callB (k_len (K := K) rfl) (by rfl) T.n_len PySem.boot_len (pa_cons (pv 2) pa_nil)) pe_int (by rfl))
          · apply pss_one
            exact ps_break
          · exact pss_nil
      apply pss_cons
      · exact (ps_set (i := 4) sc_law_right.nd rfl (.inl rfl) (pe_lst (pa_cons pe_int (pa_cons pe_int (pa_cons pe_int (pa_cons pe_int (pa_cons pe_int (pa_cons pe_int (pa_cons pe_int (pa_cons pe_int (pa_cons pe_int (pa_cons pe_int (pa_cons pe_int (pa_cons pe_int pa_nil))))))))))))))
      apply pss_cons
      · exact (ps_set (i := 5) sc_law_right.nd rfl (.inl rfl) (pe_call (ok_law_ways T) (hr.mono (by decide)) (by rfl) T.m_law_ways T.F_law_ways.kp T.b_law_ways .nil pass0 (pa_cons (pv 0) (pa_cons (pe_ix (k_ix_list (K := K) rfl) (pv 4) (pv 1) (fun _ _ => rfl)) (pa_cons (pv 1) (pa_cons pe_dnewK pa_nil))))))
      apply pss_one
      exact (ps_ret (pe_and (pe_cmpR op_eq (pe_callB (k_repr (K := K) rfl hG hr.units) (by rfl) T.n_repr (by decide +kernel) (pa_cons (pv 2) pa_nil)) (pe_callB (k_repr (K := K) rfl hG hr.units) (by rfl) T.n_repr (by decide +kernel) (pa_cons (pv 7) pa_nil)) (by rfl)) (pe_and (pe_cmpR op_eq (pe_callB (k_reprA (K := K) rfl hG hr.units) (by rfl) T.n_repr (by decide +kernel) (pa_cons (pe_call (ok_count_trails T) (hr.mono (by decide)) (by rfl) T.m_count_trails T.F_count_trails.kp T.b_count_trails .nil pass0 (pa_cons (pv 0) (pa_cons (pv 1) pa_nil))) pa_nil)) (pe_callB (k_reprA (K := K) rfl hG hr.units) (by rfl) T.n_repr (by decide +kernel) (pa_cons (pv 5) pa_nil)) (by rfl)) (pe_one (pe_cmpR op_eq (pe_callB (k_repr (K := K) rfl hG hr.units) (by rfl) T.n_repr (by decide +kernel) (pa_cons (pv 0) pa_nil)) (pv 6) (by rfl))))))
    have a1 := all_small ok hp h6
    refine seq_cut (fun σ' H' => ∃ d, σ' = [some (.ref s), some (.int p), none, none, none, none, some (.str (dG G).shown), some (.ref d)] ∧ Ex H H' ∧ GridAt H' d ((TF.all G p).take 150)) (fun N hN => ?_) (fun σ' H1 hC => ?_)
    · walk_at "sx"
      refine reprG hS ok ?_
      refine ⟨s, G, p, rfl, hS, ok, hp, h6, fun f H1 gf e1 => ?_⟩
      refine ⟨_, _, ⟨rfl, rfl⟩, ?_⟩
      exact hN _ _ ⟨f, rfl, e1, gf.at⟩
    obtain ⟨d, rfl, e2, gd⟩ := hC
    refine seq_asg (fun v H' => ∃ S, v = .ref S ∧ H1 S = none ∧ Ex H1 H' ∧ H' S = some (.lst [])) (fun R hR => ?_) (fun v H3 hC => ?_)
    · walk_at "sx"
      exact ⟨sz_ok (by omega), fun S nS => hR _ _ ⟨S, rfl, nS, Ex.new nS, upd_same⟩⟩
    obtain ⟨S, rfl, nS, e3, hSS⟩ := hC
    simp only [List.set_cons_zero, List.set_cons_succ]
    have nS3 : H3 S ≠ none := fun z => by rw [hSS] at z; cases z
    refine seq_cut (JEnd H1 s d S (dG G).shown G p) (fun N hN => ?_) (fun σ' H4 hC => ?_)
    · refine ⟨JRt H1 s d S (dG G).shown G p, ?_⟩
      walk_at "sx"
      refine ⟨⟨s, G, p, rfl, (hS.ex (e2.trans e3)), ok, hp, h6, fun i t Hr H5 Kp q ht kept nq hq ek kp => ⟨ek, fun σ Hc H1c K' hW e1c lk ek' kk => ?_⟩, fun Hr H5 kept σ Hc H1c hW e1c lk => ?_⟩, ?_⟩
      · obtain ⟨told, ps, rfl, e, hs, rfl, h150, hle, hr⟩ := hW
        obtain ⟨e, hs, hr⟩ := turnK ok hp e3 nS3 kept lk e hs hle hr
        have hq := e1c _ _ hq
        have nSq : S ≠ q := ne_of_none hSS nq
        have hi := (List.getElem?_eq_some_iff.mp ht).1
        obtain ⟨okt, _⟩ := TF.all_next ok (asc_of ok) hp ht
        have tl := okt.len
        have hnk : ∀ b o, K' b = some o → b ≠ q ∧ b ≠ S := fun b o h => by
          rcases kk b o h with h1 | ⟨h1, φ, rfl⟩
          · obtain ⟨z1, z2⟩ := kp b o h1
            exact ⟨z2, fun z => nS3 (z ▸ z1)⟩
          · have h2 := ek' _ _ h
            refine ⟨fun z => ?_, fun z => ?_⟩
            · rw [z, hq] at h2; exact nomatch Option.some.inj h2
            · rw [z, hs] at h2; exact nomatch Option.some.inj h2
        have hprS : ∀ j r, ps[j]? = some r → r ≠ S := fun j r h z => by
          have hj := (List.getElem?_eq_some_iff.mp h).1
          obtain ⟨u, hu⟩ : ∃ u, (TF.all G p)[j]? = some u := ⟨_, List.getElem?_eq_getElem (by omega)⟩
          have okr := (TF.all_next ok (asc_of ok) hp hu).1
          have h1 := hr j r h
          rw [z, hs, row_at hu] at h1
          exact no_refs okr.ne ps (Option.some.inj h1).symm
        walk_at "sx"
        refine ⟨tyL hs, appL hs (BC.sz_lt (by rw [List.length_map]; omega)) ?_⟩
        have hs6 : (upd H1c S (.lst (ps.map V.ref ++ [V.ref q]))) S = some (.lst ((ps ++ [q]).map V.ref)) := by
          rw [upd_same, List.map_append]; rfl
        have rest : ∀ b o, H1c b = some o → b ≠ S → (upd H1c S (.lst (ps.map V.ref ++ [V.ref q]))) b = some o := fun b o h n2 => by
          rw [upd_ne n2]; exact h
        have dm : SL.Dom H1c (upd H1c S (.lst (ps.map V.ref ++ [V.ref q]))) := SL.Dom.put
        have e26 := e.mut nS (o := .lst (ps.map V.ref ++ [V.ref q]))
        generalize (upd H1c S (.lst (ps.map V.ref ++ [V.ref q]))) = H6 at hs6 rest dm e26 ⊢
        have r6 : TrsAt H6 G p (ps ++ [q]) := fun j r h => by
          by_cases hj : j < ps.length
          · rw [List.getElem?_append_left hj] at h
            exact rest _ _ (hr j r h) (hprS j r h)
          · rw [List.getElem?_append_right (by omega)] at h
            have hj0 : j - ps.length = 0 := by
              have := (List.getElem?_eq_some_iff.mp h).1
              rw [List.length_singleton] at this
              omega
            rw [hj0] at h
            have hcr : q = r := by simpa using h
            subst hcr
            have : j = ps.length := by omega
            subst this
            rw [row_at ht]
            exact rest _ _ hq (Ne.symm nSq)
        have ek6 : Ex K' H6 := fun b o h => rest b o (ek' b o h) (hnk b o h).2
        refine lenL (.inl (.inl hs6)) ?_
        walk_at "sx"
        by_cases z : ((((ps ++ [q]).map V.ref).length : Nat) : Int) = 150
        · rw [if_pos z]
          rw [List.length_map, List.length_append, List.length_singleton] at z
          refine hN _ _ ⟨_, rfl, e26, ps ++ [q], hs6, ?_, fun j r h => ?_⟩
          · rw [List.length_append, List.length_singleton, List.length_take]; omega
          · have hj := (List.getElem?_eq_some_iff.mp h).1
            rw [List.length_append, List.length_singleton] at hj
            have e0 : row ((TF.all G p).take 150) j = row (TF.all G p) j := by
              unfold row
              rw [List.getD_eq_getElem?_getD, List.getD_eq_getElem?_getD, List.getElem?_take_of_lt (by omega)]
            rw [e0]
            exact r6 j r h
        · rw [if_neg z]
          rw [List.length_map, List.length_append, List.length_singleton] at z
          exact ⟨⟨_, ps ++ [q], rfl, e26, hs6, by rw [List.length_append, List.length_singleton], by omega, by omega, r6⟩, ek6, dm⟩
      · obtain ⟨told, ps, rfl, e, hs, hps, h150, hle, hr⟩ := hW
        obtain ⟨e, hs, hr⟩ := turnK ok hp e3 nS3 kept lk e hs (by omega) hr
        refine hN _ _ ⟨told, rfl, e, ps, hs, ?_, fun j r h => ?_⟩
        · rw [List.length_take]; omega
        · rw [List.take_of_length_le (by omega)]
          exact hr j r h
      · exact fun Hc ec => ⟨none, [], rfl, e3.trans ec, ec _ _ hSS, rfl, by omega, Nat.zero_le _, fun j r h => by simp at h⟩
    obtain ⟨told, rfl, e4, gs⟩ := hC
    have e04 := e2.trans e4
    refine seq_asg (fun v H' => ∃ bt, v = .ref bt ∧ Ex H4 H' ∧ H' bt = some (.lst (([1, 2, 4, 8, 16, 32, 64, 128, 256, 512, 1024, 2048] : List Int).map V.int))) (fun R hR => ?_) (fun v H5 hC => ?_)
    · walk_at "sx"
      exact ⟨sz_ok (by omega), fun bt nbt => hR _ _ ⟨bt, rfl, Ex.new nbt, upd_same⟩⟩
    obtain ⟨bt, rfl, e5, hbt⟩ := hC
    simp only [List.set_cons_zero, List.set_cons_succ]
    refine seq_asg (fun v H' => v = .int ((TF.all G p).length : Nat) ∧ Ex H5 H') (fun R hR => ?_) (fun v H6 hC => ?_)
    · walk_at "sx"
      refine ixL (.inl (.inl hbt)) (atI_n (j := p) (by rfl) (bit_at (by omega))) ?_
      intro dd ndd
      have ed := Ex.new ndd (o := .dK [])
      refine ⟨s, dd, G, [p], [], rfl, hS.ex (e04.trans (e5.trans ed)), ok, h6, TF.one_ok hp, by rw [List.length_singleton]; omega, upd_same, MemoW.nil G, fun H' kvs' f hd hm => ?_⟩
      rw [← TF.all_len ok (asc_of ok) hp]
      exact hR _ _ ⟨rfl, ((Fx.of ed).trans f).ex ndd⟩
    obtain ⟨rfl, e6⟩ := hC
    simp only [List.set_cons_zero, List.set_cons_succ]
    walk_at "sx"
    have e46 := e5.trans e6
    refine reprFew (gs.ex e46) ok hp (reprFew (gd.ex (e4.trans e46)) ok hp ?_)
    walk_at "sx"
    refine ⟨s, G, p, rfl, hS.ex (e04.trans e46), ok, hp, h6, fun H7 e7 => ?_⟩
    refine reprN (by omega) (reprN (by omega) ?_)
    walk_at "sx"
    have eF := (e04.trans e46).trans e7
    refine reprG (hS.ex eF) ok ?_
    walk_at "sx"
    exact k _ eF
end
end LW
set_option Elab.async false
set_option linter.all false
set_option maxRecDepth 100000
set_option maxHeartbeats 4000000
namespace LW
open PySem PySem.Spec PyProof.Rows L2 BC Evl TR
local macro_rules | `(tactic| walk_at "sx") => `(tactic| try simp only [x_din, x_dnotin, x_iitemsT, x_dispT1, x_valsT, x_lockT, SL.x_yfor, SL.x_yplain, SL.x_ythen, SL.x_y0, SL.x_yyield, SL.x_ywhile, SL.x_callY, SL.x_callYK, x_gwhile, x_callG, x_g0, x_gfor, x_gplain, x_gthen, x_gyield, x_listG, x_dnewT, x_dget, x_dget2, x_dput, x_seq, x_next, x_brk, x_cnt, x_nev, x_ret, x_retN, x_drop, x_ifS, x_asg, x_gn, x_gsub, x_par, x_par3, x_aug, x_for, x_lc, x_rng1, x_rng2, x_rng3, x_ilist, x_itup, x_ienum, x_izip, x_izipA, x_istr, x_var, x_c, x_op, x_un, x_test, x_b, x_chain, x_and, x_or, x_not, x_andV, x_orV, x_notV, x_ife, x_nil, x_cons, x_lst, x_tup, x_cb, x_call, x_callK, x_bm, x_bm0, x_tru, x_sl, x_nopart, x_part, x_revL, x_I0, x_I, x_U, x_ip, x_ipC, x_eqI, x_neI, x_eqB, x_neB, x_eqS, x_neS, x_isB, x_isNB, x_lrg, x_gall, x_lenSet, x_augS, x_sortSet, x_rg1, x_rg2,
  L2.start, List.map_cons, List.map_nil, List.length_cons, List.length_nil, Nat.reduceAdd, Nat.reduceSub, Nat.sub_self, Nat.zero_add, List.replicate, List.replicate_succ, List.replicate_zero, List.append_nil, List.cons_append, List.nil_append, List.set_cons_zero, List.set_cons_succ, List.getElem?_cons_zero, List.getElem?_cons_succ, Option.some.injEq, V.int.injEq, V.bl.injEq, V.ref.injEq, V.str.injEq, List.cons.injEq, and_true, true_and, exists_eq_left', exists_eq_left, exists_and_left, exists_eq, if_true, if_false, ite_true, ite_false, Bool.true_eq_false, Bool.false_eq_true, reduceIte, reduceCtorEq, Bool.not_true, Bool.not_false, decide_true, decide_false, decide_eq_true_eq, Bool.and_true, Bool.true_and, Bool.and_self, Bool.and_false, Bool.false_and, Bool.or_self, Bool.or_false, Bool.false_or, Bool.or_true, Bool.true_or, eq_self])
section
variable {P : Program} {w : World} {K : PySem.W.Frag} {mg : Str → Option Value} {base : Heap}
def spLaw (K : PySem.W.Frag) : Sp := fun vs H Q _ => ∃ (a : Addr) (ns : List Int), vs = [.ref a] ∧ SqL K H a (ns.map V.int) ∧ ns.length ≤ 63 ∧ ∀ H', Q (.bl true) H'
def JO (H1 : Hp) (a : Addr) (i : Nat) (σ' : L2.St) (H' : Hp) : Prop := ∃ l1 l2 l3 l4 l5 l6, σ' = [some (.ref a), l1, l2, l3, l4, l5, l6, none, none, none] ∧ Ex H1 H'
theorem nums_snoc (f : Nat → Nat) (j : Nat) : ((nz ((List.range j).map f)).map V.int) ++ [V.int (f j : Nat)] = (nz ((List.range (j + 1)).map f)).map V.int := by
  rw [List.range_succ, List.map_append, TF.nz_append, List.map_append]
  rfl
theorem ok_law (T : Txt K mg) : FnG P w K mg base CX0 15 T.f_law T.fd_law ["_law_script"] (spLaw K) := by
  refine fun_okN T.F_law sc_law (fun vs H Q E h => ?_) (fun cdv A outer s H vs Q E hG hr h => ?_)
  · obtain ⟨a, ns, rfl, _⟩ := h
    rfl
  · obtain ⟨a, ns, rfl, hA, hn, k⟩ := h
    apply Exists.intro
    apply And.intro
    · apply pss_cons
      · apply ps_for PassesOwn.never rfl
        · exact (pi_range1 (by rfl) T.n_range (pa_cons (pe_callB (call_max2 rfl) (by rfl) T.n_max (by decide +kernel) (pa_cons pe_int (pa_cons (pe_callB (call_min2 rfl) (by rfl) T.n_min (by decide +kernel) (pa_cons pe_int (pa_cons (pe_callB (k_len (K := K) rfl) (by rfl) T.n_len PySem.boot_len (pa_cons (pv 0) pa_nil)) pa_nil))) pa_nil))) pa_nil))
        · exact (pg_name (i := 1) sc_law.nd rfl (.inl rfl))
        · apply pss_cons
          · exact (ps_set (i := 2) sc_law.nd rfl (.inl rfl) (pe_call (ok_law_pool T) (hr.mono (by decide)) (by rfl) T.m_law_pool T.F_law_pool.kp T.b_law_pool .nil pass0 (pa_cons (pv 0) (pa_cons (pv 1) pa_nil))))
          apply pss_cons
          · exact (ps_set (i := 3) sc_law.nd rfl (.inl rfl) (pe_call (ok_law_net T) (hr.mono (by decide)) (by rfl) T.m_law_net T.F_law_net.kp T.b_law_net .nil pass0 (pa_cons (pv 2) (pa_cons (pv 0) (pa_cons pe_int pa_nil)))))
          apply pss_cons
          · apply ps_if
            · exact (pt_not (pt_val (pe_callG (ok_law_right T) hG (hr.mono (by decide)) (by rfl) T.m_law_right T.F_law_right.kp T.b_law_right .nil pass0 (pa_cons (pv 3) (pa_cons (pe_call (ok_law_draw T) (hr.mono (by decide)) (by rfl) T.m_law_draw T.F_law_draw.kp T.b_law_draw .nil pass0 (pa_cons (pv 2) (pa_cons (pe_callB (k_len (K := K) rfl) (by rfl) T.n_len PySem.boot_len (pa_cons (pv 3) pa_nil)) pa_nil))) pa_nil)))))
            · apply pss_one
              exact (ps_ret pe_bl)
            · exact pss_nil
          apply pss_cons
          · exact (ps_set (i := 4) sc_law.nd rfl (.inr rfl) (pe_slice (k_sl_list (K := K) rfl) (pv 3) po_none (po_some pe_int)))
          apply pss_cons
          · exact (ps_set (i := 4) sc_law.nd rfl (.inr rfl) (pe_lc (own := [("_law_row", 7)]) rfl sc_law.nd (k_pi_list (K := K) rfl (pv 4)) (blkOk_by (own := [("_law_row", 7)]) (N := ["_law_script", "_law_k", "_law_pool_here", "_law_net_here", "_law_small", "_law_turned", "_law_some", "_law_row", "_law_spot", "_law_far"]) (sc := defScope s_law) (by decide +kernel)) (fun _ _ _ _ _ => by exact (pg_name (i := 7) sc_law.nd rfl (by first | exact .inl rfl | exact .inr rfl))) (fun _ _ _ _ _ => by exact pts_nil) (fun _ _ _ _ _ => by exact (pe_lc (own := [("_law_far", 9)]) rfl sc_law.nd (k_pi_list (K := K) rfl (pv 7)) (blkOk_by (own := [("_law_far", 9)]) (N := ["_law_script", "_law_k", "_law_pool_here", "_law_net_here", "_law_small", "_law_turned", "_law_some", "_law_row", "_law_spot", "_law_far"]) (by kernel_rfl)) (fun _ _ _ _ _ => by exact (pg_name (i := 9) sc_law.nd rfl (.inl rfl))) (fun _ _ _ _ _ => by exact (pts_one (pt_cmpR op_lt (pv 9) (pe_callB (k_len (K := K) rfl) (by rfl) T.n_len PySem.boot_len (pa_cons (pv 4) pa_nil)) (by rfl)))) (fun _ _ _ _ _ => by exact (pv 9))))))
          apply pss_cons
          · exact (ps_set (i := 5) sc_law.nd rfl (.inr rfl) (pe_lc (own := [("_law_spot", 8)]) rfl sc_law.nd (pi_range1 (by rfl) T.n_range (pa_cons (pe_callB (k_len (K := K) rfl) (by rfl) T.n_len PySem.boot_len (pa_cons (pv 4) pa_nil)) pa_nil)) (blkOk_by (own := [("_law_spot", 8)]) (N := ["_law_script", "_law_k", "_law_pool_here", "_law_net_here", "_law_small", "_law_turned", "_law_some", "_law_row", "_law_spot", "_law_far"]) (sc := defScope s_law) (by decide +kernel)) (fun _ _ _ _ _ => by exact (pg_name (i := 8) sc_law.nd rfl (by first | exact .inl rfl | exact .inr rfl))) (fun _ _ _ _ _ => by exact pts_nil) (fun _ _ _ _ _ => by exact (pe_lc (own := [("_law_far", 9)]) rfl sc_law.nd (pi_range1 (by rfl) T.n_range (pa_cons (pe_callB (k_len (K := K) rfl) (by rfl) T.n_len PySem.boot_len (pa_cons (pv 4) pa_nil)) pa_nil)) (blkOk_by (own := [("_law_far", 9)]) (N := ["_law_script", "_law_k", "_law_pool_here", "_law_net_here", "_law_small", "_law_turned", "_law_some", "_law_row", "_law_spot", "_law_far"]) (by kernel_rfl)) (fun _ _ _ _ _ => by exact (pg_name (i := 9) sc_law.nd rfl (.inl rfl))) (fun _ _ _ _ _ => by exact (pts_one (pt_cmpR (k_in (K := K) rfl) (pv 8) (pe_ix (k_ix_list (K := K) rfl) (pv 4) (pv 9) (fun _ _ => rfl)) (by rfl)))) (fun _ _ _ _ _ => by exact (pv 9))))))
          apply pss_cons
          · exact (ps_setLc (i := 6) (own := [("_law_spot", 8)]) rfl sc_law.nd rfl rfl (sw_true rfl rfl rfl (by decide +kernel)) (pi_range1 (by rfl) T.n_range (pa_cons (pe_callB (k_len (K := K) rfl) (by rfl) T.n_len PySem.boot_len (pa_cons (pv 4) pa_nil)) pa_nil)) (blkOk_by (own := [("_law_spot", 8)]) (N := ["_law_script", "_law_k", "_law_pool_here", "_law_net_here", "_law_small", "_law_turned", "_law_some", "_law_row", "_law_spot", "_law_far"]) (sc := defScope s_law) (by decide +kernel)) (fun _ _ _ _ _ => by exact (pg_name (i := 8) sc_law.nd rfl (.inl rfl))) (fun _ _ _ _ _ => by exact pts_nil) (fun _ _ _ _ _ => by exact (pe_call (ok_count_trails T) (hr.mono (by decide)) (by rfl) T.m_count_trails T.F_count_trails.kp T.b_count_trails .nil pass0 (pa_cons (pv 4) (pa_cons (pv 8) pa_nil)))))
          apply pss_cons
          · apply ps_if
            · exact (pt_cmpR op_ne (pe_callB (k_sum (K := K) rfl rfl) (by rfl) T.n_sum (by decide +kernel) (pa_cons (pv 6) pa_nil)) (pe_callB (k_sum (K := K) rfl rfl) (by rfl) T.n_sum (by decide +kernel) (pa_cons (pe_lc (own := [("_law_spot", 8)]) rfl sc_law.nd (pi_range1 (by rfl) T.n_range (pa_cons (pe_callB (k_len (K := K) rfl) (by rfl) T.n_len PySem.boot_len (pa_cons (pv 4) pa_nil)) pa_nil)) (blkOk_by (own := [("_law_spot", 8)]) (N := ["_law_script", "_law_k", "_law_pool_here", "_law_net_here", "_law_small", "_law_turned", "_law_some", "_law_row", "_law_spot", "_law_far"]) (sc := defScope s_law) (by decide +kernel)) (fun _ _ _ _ _ => by exact (pg_name (i := 8) sc_law.nd rfl (.inl rfl))) (fun _ _ _ _ _ => by exact pts_nil) (fun _ _ _ _ _ => by exact (pe_call (ok_count_trails T) (hr.mono (by decide)) (by rfl) T.m_count_trails T.F_count_trails.kp T.b_count_trails .nil pass0 (pa_cons (pv 5) (pa_cons (pv 8) pa_nil))))) pa_nil)) (by rfl))
            · apply pss_one
              exact (ps_ret pe_bl)
            · exact pss_nil
          apply pss_one
          apply ps_if
          · exact (pt_not (pt_val (pe_call (ok_law_full_right T) (hr.mono (by decide)) (by rfl) T.m_law_full_right T.F_law_full_right.kp T.b_law_full_right .nil pass0 (pa_cons (pe_ifExp (pt_cmpR (k_eqD (K := K) rfl hr.units) (pv 0) (pe_lst pa_nil) (by rfl)) pe_int (pe_ix (k_ix_list (K := K) rfl) (pe_lst (pa_cons pe_int (pa_cons pe_int pa_nil))) (pv 1) (fun _ _ => rfl))) pa_nil))))
          · apply pss_one
            exact (ps_ret pe_bl)
          · exact pss_nil
      apply pss_one
      exact (ps_ret pe_bl)
    walk_at "sx"
    refine lenL hA ?_
    rw [List.length_map]
    refine ⟨_, _, ⟨rfl, rfl⟩, _, _, ⟨rfl, rfl⟩, ?_⟩
    obtain ⟨tn, ht, ht8⟩ : ∃ tn : Nat, (if (if ((ns.length : Nat) : Int) < 2 then ((ns.length : Nat) : Int) else 2) > 1 then (if ((ns.length : Nat) : Int) < 2 then ((ns.length : Nat) : Int) else 2) else 1) = (tn : Int) ∧ tn ≤ 2 := by
      refine ⟨(if (if ((ns.length : Nat) : Int) < 2 then ((ns.length : Nat) : Int) else 2) > 1 then (if ((ns.length : Nat) : Int) < 2 then ((ns.length : Nat) : Int) else 2) else 1).toNat, ?_, ?_⟩
      · rw [Int.toNat_of_nonneg]
        split <;> split <;> omega
      · split <;> split <;> omega
    rw [ht]
    refine ⟨by omega, by omega, ?_⟩
    rw [Int.toNat_natCast]
    refine lg_rng (JO H a) ⟨none, none, none, none, none, none, rfl, Ex.refl H⟩ (fun i σ' H' hi hP => ?_) (fun σ' H' hP => ?_)
    · obtain ⟨l1, l2, l3, l4, l5, l6, rfl, e⟩ := hP
      simp only [x_gn, List.set_cons_zero, List.set_cons_succ]
      rw [show (0 : Int) + (i : Int) = (i : Int) by omega]
      refine seq_asg (fun v H2 => ∃ b, v = .ref b ∧ H' b = none ∧ Ex H' H2 ∧ BagAt H2 b 0) (fun R hR => ?_) (fun v H2 hC => ?_)
      · walk_at "sx"
        exact ⟨a, ns, i, rfl, ex_l e hA, hn, by omega, fun b H2 nb e2 hb => hR _ _ ⟨b, rfl, nb, e2, hb⟩⟩
      obtain ⟨b, rfl, nb, e2, hb⟩ := hC
      have nbH : H b = none := fresh_back e nb
      obtain ⟨ob, hob⟩ := hb.some
      simp only [List.set_cons_zero, List.set_cons_succ]
      refine seq_asg (fun v H3 => ∃ s G, v = .ref s ∧ Fx b H2 H3 ∧ BagAt H3 b 200 ∧ GridN H2 H3 s G ∧ SiteOk G ∧ G.length ≤ 12) (fun R hR => ?_) (fun v H3 hC => ?_)
      · walk_at "sx"
        exact ⟨b, a, ns, rfl, ex_l (e.trans e2) hA, ⟨H', nb, ex_l e hA⟩, hb, fun s G H3 f3 b3 g3 ok h6 => hR _ _ ⟨s, G, rfl, f3, b3, g3, ok, h6⟩⟩
      obtain ⟨s, G, rfl, f3, b3, g3, ok, h6⟩ := hC
      have n1 := ok.n1
      simp only [List.set_cons_zero, List.set_cons_succ]
      refine seq_cut (fun σ' H4 => σ' = [some (.ref a), some (.int (i : Int)), some (.ref b), some (.ref s), l4, l5, l6, none, none, none] ∧ Fx b H2 H4 ∧ GridN H2 H4 s G) (fun N hN => ?_) (fun σ' H4 hC => ?_)
      · walk_at "sx"
        obtain ⟨xs, hs, hl, _⟩ := g3.at.lst
        refine lenL (.inl (.inl hs)) ?_
        rw [hl]
        refine ⟨b, _, _, rfl, by omega, big_of (by omega), b3, by omega, fun r H5 r0 r1 f5 b5 => ?_⟩
        have g5 := g3.nw (Nw.fx hob f5)
        refine ⟨s, G, r.toNat, by rw [Int.toNat_of_nonneg r0], g5.at, ok, by omega, h6, fun H6 e6 => ⟨_, rfl, ?_⟩⟩
        rw [if_neg (by decide)]
        exact hN _ _ ⟨rfl, (f3.trans f5).trans (Fx.of e6), g5.ex e6⟩
      obtain ⟨rfl, f4, g4⟩ := hC
      have EH : Ex H' H4 := fun c o h => f4 _ _ (ne_of_none h nb) (e2 _ _ h)
      obtain ⟨_, ps, hs, hps, _, _, hrow⟩ := id g4
      have okS := TF.cutG_ok ok
      refine seq_asg (fun v H5 => ∃ u, v = .ref u ∧ Ex H4 H5 ∧ H5 u = some (.lst ((ps.take 6).map V.ref))) (fun R hR => ?_) (fun v H5 hC => ?_)
      · walk_at "sx"
        refine slL (.inl (.inl hs)) fun u nu => ?_
        rw [show (6 : Int) = ((6 : Nat) : Int) from rfl, cut_take, ← List.map_take]
        exact hR _ _ ⟨u, rfl, Ex.new nu, upd_same⟩
      obtain ⟨u, rfl, e5, hu⟩ := hC
      simp only [List.set_cons_zero, List.set_cons_succ]
      have lps : (ps.take 6).length = (G.take 6).length := by rw [List.length_take, List.length_take, hps]
      have l6g : (G.take 6).length ≤ 6 := by rw [List.length_take]; omega
      refine seq_asg (fun v H6 => ∃ m, v = .ref m ∧ Ex H5 H6 ∧ GridN H5 H6 m (TF.cutG G)) (fun R hR => ?_) (fun v H6 hC => ?_)
      · walk_at "sx"
        refine ⟨⟨_, .inl (.inl hu)⟩, fun D nD => ?_⟩
        refine lc_listE (xs := (ps.take 6).map V.ref) (fun j HA => Ex H5 HA ∧ GridN H5 HA D ((TF.cutG G).take j)) ⟨Ex.new nD, GridN.nil nD⟩ (fun j HA _ hP => .inl (.inl (hP.1 _ _ hu))) (fun j x HA hx hP => ?_) (fun HA hP => ?_)
        · obtain ⟨eP, gP⟩ := hP
          have hj := (List.getElem?_eq_some_iff.mp hx).1
          rw [List.length_map] at hj
          obtain ⟨q, hq⟩ : ∃ q, (ps.take 6)[j]? = some q := ⟨_, List.getElem?_eq_getElem hj⟩
          rw [List.getElem?_map, hq] at hx
          cases hx
          obtain ⟨r, hr⟩ : ∃ r, (G.take 6)[j]? = some r := ⟨_, List.getElem?_eq_getElem (by omega)⟩
          have hqr : HA q = some (.lst ((nz r).map V.int)) := by
            have j6 : j < 6 := by omega
            have q2 : ps[j]? = some q := by rw [← hq, List.getElem?_take_of_lt j6]
            have r2 : G[j]? = some r := by rw [← hr, List.getElem?_take_of_lt j6]
            have h1 := (hrow j q q2).2
            rw [row_at r2] at h1
            exact eP _ _ (e5 _ _ h1)
          have r12 : r.length ≤ 12 := by
            have r2 : G[j]? = some r := by rw [← hr, List.getElem?_take_of_lt (by omega)]
            exact ok.len r2
          refine ⟨rfl, ?_⟩
          simp only [wipe, List.set_cons_zero, List.set_cons_succ]
          walk_at "sx"
          refine ⟨⟨_, .inl (.inl hqr)⟩, fun D2 nD2 => ?_⟩
          refine lc_listT (xs := (nz r).map V.int) (fun x HB => Ex HA HB ∧ HB D2 = some (.lst ((nz ((r.take x).filter fun y => decide (y < (G.take 6).length))).map V.int))) ⟨Ex.new nD2, upd_same⟩ (fun x HB _ hP2 => .inl (.inl (hP2.1 _ _ hqr))) (fun x v HB hv hP2 => ?_) (fun HB hP2 => ?_)
          · obtain ⟨eB, hD2⟩ := hP2
            obtain ⟨y, hy, rfl⟩ := at_nz hv
            refine ⟨rfl, ?_⟩
            simp only [wipe, List.set_cons_zero, List.set_cons_succ]
            walk_at "sx"
            refine lenL (.inl (.inl (eB _ _ (eP _ _ hu)))) ?_
            rw [List.length_map, lps]
            walk_at "sx"
            have fl := List.length_filter_le (fun y => decide (y < (G.take 6).length)) (r.take x)
            have fl2 : (r.take x).length ≤ 12 := by rw [List.length_take]; omega
            have tk : r.take (x + 1) = r.take x ++ [y] := by rw [List.take_add_one, hy]; rfl
            by_cases c : y < (G.take 6).length
            · rw [if_pos (by omega)]
              refine ⟨_, hD2, BC.sz_lt (by rw [List.length_map, nz_len]; omega), eB.mut nD2, ?_⟩
              rw [upd_same, tk, List.filter_append, List.filter_cons_of_pos (p := fun y => decide (y < (G.take 6).length)) (decide_eq_true c), List.filter_nil, TF.nz_append, List.map_append]
              rfl
            · rw [if_neg (by omega)]
              refine ⟨eB, ?_⟩
              rw [tk, List.filter_append, List.filter_cons_of_neg (p := fun y => decide (y < (G.take 6).length)) (by rw [decide_eq_false c]; decide), List.filter_nil, List.append_nil]
              exact hD2
          · obtain ⟨eB, hD2⟩ := hP2
            rw [List.length_map, nz_len, List.take_length] at hD2
            obtain ⟨ys, h1, h2, g2⟩ := gP.push (r := r.filter fun y => decide (y < (G.take 6).length)) (fresh_back eP nD2) nD2 (Nw.of eB) hD2
            refine ⟨ys, h1, BC.sz_lt (by rw [h2, List.length_take]; omega), (eP.trans eB).mut nD, ?_⟩
            rw [List.take_add_one, TF.cutG_at hr]
            exact g2
        · obtain ⟨eP, gP⟩ := hP
          rw [List.take_of_length_le (by rw [TF.cutG_len, List.length_map, lps]; exact Nat.le_refl _)] at gP
          exact hR _ _ ⟨D, rfl, eP, gP⟩
      obtain ⟨m, rfl, e6, g6⟩ := hC
      simp only [List.set_cons_zero, List.set_cons_succ]
      have hnS : (TF.cutG G).length ≤ 6 := by rw [TF.cutG_len]; exact l6g
      generalize TF.cutG G = S at okS g6 hnS
      refine seq_asg (fun v H7 => ∃ t, v = .ref t ∧ Ex H6 H7 ∧ GridN H6 H7 t (TF.turnG S)) (fun R hR => ?_) (fun v H7 hC => ?_)
      · walk_at "sx"
        obtain ⟨ys, hm, hml, hmr⟩ := g6.at.lst
        refine lenL (.inl (.inl hm)) ?_
        rw [hml]
        refine ⟨_, rfl, by omega, by omega, fun D nD => ?_⟩
        rw [Int.toNat_natCast]
        refine lc_rngE (fun j HA => Ex H6 HA ∧ GridN H6 HA D ((TF.turnG S).take j)) ⟨Ex.new nD, GridN.nil nD⟩ (fun j HA hj hP => ?_) (fun HA hP => ?_)
        · obtain ⟨eP, gP⟩ := hP
          refine ⟨rfl, ?_⟩
          simp only [wipe, List.set_cons_zero, List.set_cons_succ]
          rw [show (0 : Int) + (j : Int) = (j : Int) by omega]
          walk_at "sx"
          refine lenL (.inl (.inl (eP _ _ hm))) ?_
          rw [hml]
          refine ⟨_, rfl, by omega, by omega, fun D2 nD2 => ?_⟩
          rw [Int.toNat_natCast]
          refine lc_rngT79 (fun x HB => Ex HA HB ∧ HB D2 = some (.lst ((nz ((List.range x).filter fun y => decide (j ∈ row S y))).map V.int))) ⟨Ex.new nD2, upd_same⟩ (fun x HB hx hP2 => ?_) (fun HB hP2 => ?_)
          · obtain ⟨eB, hD2⟩ := hP2
            refine ⟨rfl, ?_⟩
            simp only [wipe, List.set_cons_zero, List.set_cons_succ]
            rw [show (0 : Int) + (x : Int) = (x : Int) by omega]
            walk_at "sx"
            obtain ⟨q, zs, z1, z2, z3, z4⟩ := ((g6.ex eP).ex eB).at.get hx
            refine ixL (.inl (.inl z1)) (atI_n (j := x) rfl z3) ?_
            refine inL (.inl (.inl z4)) ?_
            refine ⟨_, rfl, ?_⟩
            have fl := List.length_filter_le (fun y => decide (j ∈ row S y)) (List.range x)
            rw [List.length_range] at fl
            have hx6 : x < S.length := hx
            by_cases c : j ∈ row S x
            · rw [decide_eq_true (nz_mem.mpr c), if_pos rfl]
              refine ⟨_, hD2, BC.sz_lt (by rw [List.length_map, nz_len]; omega), eB.mut nD2, ?_⟩
              rw [upd_same, List.range_succ, List.filter_append, List.filter_cons_of_pos (p := fun y => decide (j ∈ row S y)) (decide_eq_true c), List.filter_nil, TF.nz_append, List.map_append]
              rfl
            · rw [decide_eq_false fun q => c (nz_mem.mp q), if_neg (by decide)]
              refine ⟨eB, ?_⟩
              rw [List.range_succ, List.filter_append, List.filter_cons_of_neg (p := fun y => decide (j ∈ row S y)) (by rw [decide_eq_false c]; decide), List.filter_nil, List.append_nil]
              exact hD2
          · obtain ⟨eB, hD2⟩ := hP2
            obtain ⟨ys, h1, h2, g2⟩ := gP.push (r := (List.range S.length).filter fun y => decide (j ∈ row S y)) (fresh_back eP nD2) nD2 (Nw.of eB) hD2
            have hj6 : j < S.length := hj
            refine ⟨ys, h1, BC.sz_lt (by rw [h2, List.length_take]; omega), (eP.trans eB).mut nD, ?_⟩
            rw [List.take_add_one, TF.turnG_at hj]
            exact g2
        · obtain ⟨eP, gP⟩ := hP
          rw [List.take_of_length_le (by rw [TF.turnG_len]; omega)] at gP
          exact hR _ _ ⟨D, rfl, eP, gP⟩
      obtain ⟨t, rfl, e7, g7⟩ := hC
      simp only [List.set_cons_zero, List.set_cons_succ]
      have n2 := okS.n2
      have okF := TF.turnG_ok okS
      have lF := TF.turnG_len S
      refine seq_asg (fun v H8 => ∃ x, v = .ref x ∧ Ex H7 H8 ∧ H8 x = some (.lst ((nz ((List.range S.length).map fun p => (TF.all S p).length)).map V.int))) (fun R hR => ?_) (fun v H8 hC => ?_)
      · walk_at "sx"
        obtain ⟨ys, hm, hml, hmr⟩ := (g6.ex e7).at.lst
        refine lenL (.inl (.inl hm)) ?_
        rw [hml]
        refine ⟨_, rfl, by omega, by omega, fun D nD => ?_⟩
        rw [Int.toNat_natCast]
        refine lc_rngE (fun j HA => Ex H7 HA ∧ HA D = some (.lst ((nz ((List.range j).map fun p => (TF.all S p).length)).map V.int))) ⟨Ex.new nD, upd_same⟩ (fun j HA hj hP => ?_) (fun HA hP => hR _ _ ⟨D, rfl, hP.1, hP.2⟩)
        obtain ⟨eP, hD⟩ := hP
        have hj : j < S.length := hj
        refine ⟨rfl, ?_⟩
        simp only [wipe, List.set_cons_zero, List.set_cons_succ]
        rw [show (0 : Int) + (j : Int) = (j : Int) by omega]
        walk_at "sx"
        refine ⟨m, S, j, rfl, (g6.ex (e7.trans eP)).at, okS, hj, n2, fun HB eB => ?_⟩
        refine ⟨_, eB _ _ hD, BC.sz_lt (by rw [List.length_map, nz_len, List.length_map, List.length_range]; omega), (eP.trans eB).mut nD, ?_⟩
        rw [upd_same, nums_snoc fun p => (TF.all S p).length]
      obtain ⟨x, rfl, e8, hx⟩ := hC
      simp only [List.set_cons_zero, List.set_cons_succ]
      refine seq_cut (fun σ' H9 => σ' = [some (.ref a), some (.int (i : Int)), some (.ref b), some (.ref s), some (.ref m), some (.ref t), some (.ref x), none, none, none] ∧ Ex H8 H9) (fun N hN => ?_) (fun σ' H9 hC => ?_)
      · walk_at "sx"
        refine sumL (.inl (.inl hx)) ?_
        obtain ⟨ys, hm, hml, hmr⟩ := (g6.ex (e7.trans e8)).at.lst
        refine lenL (.inl (.inl hm)) ?_
        rw [hml]
        refine ⟨_, rfl, by omega, by omega, fun D nD => ?_⟩
        rw [Int.toNat_natCast]
        refine lc_rngE (fun j HA => Ex H8 HA ∧ HA D = some (.lst ((nz ((List.range j).map fun p => (TF.all (TF.turnG S) p).length)).map V.int))) ⟨Ex.new nD, upd_same⟩ (fun j HA hj hP => ?_) (fun HA hP => ?_)
        · obtain ⟨eP, hD⟩ := hP
          have hj : j < S.length := hj
          refine ⟨rfl, ?_⟩
          simp only [wipe, List.set_cons_zero, List.set_cons_succ]
          rw [show (0 : Int) + (j : Int) = (j : Int) by omega]
          walk_at "sx"
          refine ⟨t, TF.turnG S, j, rfl, (g7.ex (e8.trans eP)).at, okF, by omega, by omega, fun HB eB => ?_⟩
          refine ⟨_, eB _ _ hD, BC.sz_lt (by rw [List.length_map, nz_len, List.length_map, List.length_range]; omega), (eP.trans eB).mut nD, ?_⟩
          rw [upd_same, nums_snoc fun p => (TF.all (TF.turnG S) p).length]
        · obtain ⟨eP, hD⟩ := hP
          refine sumL (.inl (.inl hD)) ?_
          have es := TF.turned_sum okS fun F h => asc_of h
          have e1 : ∀ l : List Nat, (nz l).sum = ((l.sum : Nat) : Int) := fun l => nat_sum l
          rw [e1, e1, es]
          walk_at "sx"
          exact hN _ _ ⟨rfl, eP⟩
      obtain ⟨rfl, e9⟩ := hC
      have E9 : Ex H H9 := e.trans (EH.trans (e5.trans (e6.trans (e7.trans (e8.trans e9)))))
      walk_at "sx"
      refine ⟨by decide, fun z nz1 => ?_⟩
      have ez := Ex.new nz1 (o := .lst [])
      refine eqInts (ns := ns) (ms := []) (ex_l (E9.trans ez) hA) (.inl (.inl upd_same)) ⟨_, rfl, ?_⟩
      by_cases c : ns = []
      · rw [if_pos (decide_eq_true c)]
        refine ⟨4, rfl, by simp, fun H10 e10 => ⟨_, rfl, ?_⟩⟩
        rw [if_neg (by decide)]
        exact ⟨_, _, _, _, _, _, rfl, E9.trans (ez.trans e10)⟩
      · rw [if_neg (fun q => c (of_decide_eq_true q))]
        refine ⟨by decide, fun w nw => ?_⟩
        have ew := Ex.new nw (o := .lst [V.int 12, V.int 9])
        obtain ⟨nn, hnn, mnn⟩ : ∃ nn : Nat, ([V.int 12, V.int 9] : List V)[i]? = some (.int (nn : Nat)) ∧ nn ∈ [4, 9, 12] := by
          rcases (show i = 0 ∨ i = 1 by omega) with rfl | rfl
          · exact ⟨12, rfl, by simp⟩
          · exact ⟨9, rfl, by simp⟩
        refine ixL (.inl (.inl upd_same)) (atI_n (j := i) rfl hnn) ?_
        refine ⟨nn, rfl, mnn, fun H10 e10 => ⟨_, rfl, ?_⟩⟩
        rw [if_neg (by decide)]
        exact ⟨_, _, _, _, _, _, rfl, E9.trans (ez.trans (ew.trans e10))⟩
    · obtain ⟨l1, l2, l3, l4, l5, l6, rfl, e⟩ := hP
      walk_at "sx"
      exact k _
end
end LW
set_option Elab.async false
set_option linter.all false
set_option maxRecDepth 100000
set_option maxHeartbeats 4000000
namespace LW
open PySem PySem.Spec PyProof.Rows L2 BC Evl TR
theorem all_mk {l : PySem.W.OpenLaw} {w : World} {K : PySem.W.Frag} {h : Heap} {mg : Str → Option Value} {fa : Addr} (X : K.In h) (G : h.Ns mainGlobals mg) (hfa : mg "law" = some (.ref fa))
    {f0 : Addr} {od0 an0 : Option Addr} {sl0 : Array (Option Value)} {oc0 kV0 dc0 pm0 cd0 ct0 : Value}
    {f1 : Addr} {od1 an1 : Option Addr} {sl1 : Array (Option Value)} {oc1 kV1 dc1 pm1 cd1 ct1 : Value}
    {f2 : Addr} {od2 an2 : Option Addr} {sl2 : Array (Option Value)} {oc2 kV2 dc2 pm2 cd2 ct2 : Value}
    {f3 : Addr} {od3 an3 : Option Addr} {sl3 : Array (Option Value)} {oc3 kV3 dc3 pm3 cd3 ct3 : Value}
    {f4 : Addr} {od4 an4 : Option Addr} {sl4 : Array (Option Value)} {oc4 kV4 dc4 pm4 cd4 ct4 : Value}
    {f5 : Addr} {od5 an5 : Option Addr} {sl5 : Array (Option Value)} {oc5 kV5 dc5 pm5 cd5 ct5 : Value}
    {f6 : Addr} {od6 an6 : Option Addr} {sl6 : Array (Option Value)} {oc6 kV6 dc6 pm6 cd6 ct6 : Value}
    {f7 : Addr} {od7 an7 : Option Addr} {sl7 : Array (Option Value)} {oc7 kV7 dc7 pm7 cd7 ct7 : Value}
    {f8 : Addr} {od8 an8 : Option Addr} {sl8 : Array (Option Value)} {oc8 kV8 dc8 pm8 cd8 ct8 : Value}
    {f9 : Addr} {od9 an9 : Option Addr} {sl9 : Array (Option Value)} {oc9 kV9 dc9 pm9 cd9 ct9 : Value}
    {f10 : Addr} {od10 an10 : Option Addr} {sl10 : Array (Option Value)} {oc10 kV10 dc10 pm10 cd10 ct10 : Value}
    {f11 : Addr} {od11 an11 : Option Addr} {sl11 : Array (Option Value)} {oc11 kV11 dc11 pm11 cd11 ct11 : Value}
    {f12 : Addr} {od12 an12 : Option Addr} {sl12 : Array (Option Value)} {oc12 kV12 dc12 pm12 cd12 ct12 : Value}
    {f13 : Addr} {od13 an13 : Option Addr} {sl13 : Array (Option Value)} {oc13 kV13 dc13 pm13 cd13 ct13 : Value}
    {f14 : Addr} {od14 an14 : Option Addr} {sl14 : Array (Option Value)} {oc14 kV14 dc14 pm14 cd14 ct14 : Value}
    {f15 : Addr} {od15 an15 : Option Addr} {sl15 : Array (Option Value)} {oc15 kV15 dc15 pm15 cd15 ct15 : Value}
    {f16 : Addr} {od16 an16 : Option Addr} {sl16 : Array (Option Value)} {oc16 kV16 dc16 pm16 cd16 ct16 : Value}
    {f17 : Addr} {od17 an17 : Option Addr} {sl17 : Array (Option Value)} {oc17 kV17 dc17 pm17 cd17 ct17 : Value}
    {tA_BITS : Addr} {tD_BITS : Option Addr} {tN_BITS : Nat} {tS_BITS : Array (Option Value)} {tt_BITS_0 tt_BITS_1 tt_BITS_2 tt_BITS_3 tt_BITS_4 tt_BITS_5 tt_BITS_6 tt_BITS_7 tt_BITS_8 tt_BITS_9 tt_BITS_10 tt_BITS_11 : Tok}
    {tt_MOST_PAGES : Tok}
    (a0 : PySem.W.nsIn K mainGlobals "is_integer" = some (some (.ref f0))) (l0 : K.lookup f0 = some ⟨oc0, od0, .func (PySem.W.fnOf "is_integer" "is_integer" (defArgs s_is_integer) (defBody s_is_integer) (defScope s_is_integer) .none kV0 dc0 pm0 an0 cd0 ct0), sl0⟩) (c0 : PySem.W.codeIn K cd0 "is_integer" = true) (k0 : PySem.W.keepIn K (.ref f0) = true)
    (a1 : PySem.W.nsIn K mainGlobals "is_row" = some (some (.ref f1))) (l1 : K.lookup f1 = some ⟨oc1, od1, .func (PySem.W.fnOf "is_row" "is_row" (defArgs s_is_row) (defBody s_is_row) (defScope s_is_row) .none kV1 dc1 pm1 an1 cd1 ct1), sl1⟩) (c1 : PySem.W.codeIn K cd1 "is_row" = true) (k1 : PySem.W.keepIn K (.ref f1) = true)
    (a2 : PySem.W.nsIn K mainGlobals "is_site" = some (some (.ref f2))) (l2 : K.lookup f2 = some ⟨oc2, od2, .func (PySem.W.fnOf "is_site" "is_site" (defArgs s_is_site) (defBody s_is_site) (defScope s_is_site) .none kV2 dc2 pm2 an2 cd2 ct2), sl2⟩) (c2 : PySem.W.codeIn K cd2 "is_site" = true) (k2 : PySem.W.keepIn K (.ref f2) = true)
    (a3 : PySem.W.nsIn K mainGlobals "check_site" = some (some (.ref f3))) (l3 : K.lookup f3 = some ⟨oc3, od3, .func (PySem.W.fnOf "check_site" "check_site" (defArgs s_check_site) (defBody s_check_site) (defScope s_check_site) .none kV3 dc3 pm3 an3 cd3 ct3), sl3⟩) (c3 : PySem.W.codeIn K cd3 "check_site" = true) (k3 : PySem.W.keepIn K (.ref f3) = true)
    (a4 : PySem.W.nsIn K mainGlobals "check_page" = some (some (.ref f4))) (l4 : K.lookup f4 = some ⟨oc4, od4, .func (PySem.W.fnOf "check_page" "check_page" (defArgs s_check_page) (defBody s_check_page) (defScope s_check_page) .none kV4 dc4 pm4 an4 cd4 ct4), sl4⟩) (c4 : PySem.W.codeIn K cd4 "check_page" = true) (k4 : PySem.W.keepIn K (.ref f4) = true)
    (a5 : PySem.W.nsIn K mainGlobals "has_bit" = some (some (.ref f5))) (l5 : K.lookup f5 = some ⟨oc5, od5, .func (PySem.W.fnOf "has_bit" "has_bit" (defArgs s_has_bit) (defBody s_has_bit) (defScope s_has_bit) .none kV5 dc5 pm5 an5 cd5 ct5), sl5⟩) (c5 : PySem.W.codeIn K cd5 "has_bit" = true) (k5 : PySem.W.keepIn K (.ref f5) = true)
    (a6 : PySem.W.nsIn K mainGlobals "longer_ways" = some (some (.ref f6))) (l6 : K.lookup f6 = some ⟨oc6, od6, .func (PySem.W.fnOf "longer_ways" "longer_ways" (defArgs s_longer_ways) (defBody s_longer_ways) (defScope s_longer_ways) .none kV6 dc6 pm6 an6 cd6 ct6), sl6⟩) (c6 : PySem.W.codeIn K cd6 "longer_ways" = true) (k6 : PySem.W.keepIn K (.ref f6) = true)
    (a7 : PySem.W.nsIn K mainGlobals "trails_from" = some (some (.ref f7))) (l7 : K.lookup f7 = some ⟨oc7, od7, .func (PySem.W.fnOf "trails_from" "trails_from" (defArgs s_trails_from) (defBody s_trails_from) (defScope s_trails_from) .none kV7 dc7 pm7 an7 cd7 ct7), sl7⟩) (c7 : PySem.W.codeIn K cd7 "trails_from" = true) (k7 : PySem.W.keepIn K (.ref f7) = true)
    (a8 : PySem.W.nsIn K mainGlobals "count_trails" = some (some (.ref f8))) (l8 : K.lookup f8 = some ⟨oc8, od8, .func (PySem.W.fnOf "count_trails" "count_trails" (defArgs s_count_trails) (defBody s_count_trails) (defScope s_count_trails) .none kV8 dc8 pm8 an8 cd8 ct8), sl8⟩) (c8 : PySem.W.codeIn K cd8 "count_trails" = true) (k8 : PySem.W.keepIn K (.ref f8) = true)
    (a9 : PySem.W.nsIn K mainGlobals "_law_pool" = some (some (.ref f9))) (l9 : K.lookup f9 = some ⟨oc9, od9, .func (PySem.W.fnOf "_law_pool" "_law_pool" (defArgs s_law_pool) (defBody s_law_pool) (defScope s_law_pool) .none kV9 dc9 pm9 an9 cd9 ct9), sl9⟩) (c9 : PySem.W.codeIn K cd9 "_law_pool" = true) (k9 : PySem.W.keepIn K (.ref f9) = true)
    (a10 : PySem.W.nsIn K mainGlobals "_law_draw" = some (some (.ref f10))) (l10 : K.lookup f10 = some ⟨oc10, od10, .func (PySem.W.fnOf "_law_draw" "_law_draw" (defArgs s_law_draw) (defBody s_law_draw) (defScope s_law_draw) .none kV10 dc10 pm10 an10 cd10 ct10), sl10⟩) (c10 : PySem.W.codeIn K cd10 "_law_draw" = true) (k10 : PySem.W.keepIn K (.ref f10) = true)
    (a11 : PySem.W.nsIn K mainGlobals "_law_net" = some (some (.ref f11))) (l11 : K.lookup f11 = some ⟨oc11, od11, .func (PySem.W.fnOf "_law_net" "_law_net" (defArgs s_law_net) (defBody s_law_net) (defScope s_law_net) .none kV11 dc11 pm11 an11 cd11 ct11), sl11⟩) (c11 : PySem.W.codeIn K cd11 "_law_net" = true) (k11 : PySem.W.keepIn K (.ref f11) = true)
    (a12 : PySem.W.nsIn K mainGlobals "_law_behind" = some (some (.ref f12))) (l12 : K.lookup f12 = some ⟨oc12, od12, .func (PySem.W.fnOf "_law_behind" "_law_behind" (defArgs s_law_behind) (defBody s_law_behind) (defScope s_law_behind) .none kV12 dc12 pm12 an12 cd12 ct12), sl12⟩) (c12 : PySem.W.codeIn K cd12 "_law_behind" = true) (k12 : PySem.W.keepIn K (.ref f12) = true)
    (a13 : PySem.W.nsIn K mainGlobals "_law_ways" = some (some (.ref f13))) (l13 : K.lookup f13 = some ⟨oc13, od13, .func (PySem.W.fnOf "_law_ways" "_law_ways" (defArgs s_law_ways) (defBody s_law_ways) (defScope s_law_ways) .none kV13 dc13 pm13 an13 cd13 ct13), sl13⟩) (c13 : PySem.W.codeIn K cd13 "_law_ways" = true) (k13 : PySem.W.keepIn K (.ref f13) = true)
    (a14 : PySem.W.nsIn K mainGlobals "_law_first" = some (some (.ref f14))) (l14 : K.lookup f14 = some ⟨oc14, od14, .func (PySem.W.fnOf "_law_first" "_law_first" (defArgs s_law_first) (defBody s_law_first) (defScope s_law_first) .none kV14 dc14 pm14 an14 cd14 ct14), sl14⟩) (c14 : PySem.W.codeIn K cd14 "_law_first" = true) (k14 : PySem.W.keepIn K (.ref f14) = true)
    (a15 : PySem.W.nsIn K mainGlobals "_law_right" = some (some (.ref f15))) (l15 : K.lookup f15 = some ⟨oc15, od15, .func (PySem.W.fnOf "_law_right" "_law_right" (defArgs s_law_right) (defBody s_law_right) (defScope s_law_right) .none kV15 dc15 pm15 an15 cd15 ct15), sl15⟩) (c15 : PySem.W.codeIn K cd15 "_law_right" = true) (k15 : PySem.W.keepIn K (.ref f15) = true)
    (a16 : PySem.W.nsIn K mainGlobals "_law_full_right" = some (some (.ref f16))) (l16 : K.lookup f16 = some ⟨oc16, od16, .func (PySem.W.fnOf "_law_full_right" "_law_full_right" (defArgs s_law_full_right) (defBody s_law_full_right) (defScope s_law_full_right) .none kV16 dc16 pm16 an16 cd16 ct16), sl16⟩) (c16 : PySem.W.codeIn K cd16 "_law_full_right" = true) (k16 : PySem.W.keepIn K (.ref f16) = true)
    (a17 : PySem.W.nsIn K mainGlobals "law" = some (some (.ref f17))) (l17 : K.lookup f17 = some ⟨oc17, od17, .func (PySem.W.fnOf "law" "law" (defArgs s_law) (defBody s_law) (defScope s_law) .none kV17 dc17 pm17 an17 cd17 ct17), sl17⟩) (c17 : PySem.W.codeIn K cd17 "law" = true) (k17 : PySem.W.keepIn K (.ref f17) = true)
    (q_BITS : PySem.W.nsIn K mainGlobals "BITS" = some (some (.ref tA_BITS))) (ql_BITS : K.lookup tA_BITS = some ⟨.type "tuple", tD_BITS, .seq #[.int 1 tt_BITS_0, .int 2 tt_BITS_1, .int 4 tt_BITS_2, .int 8 tt_BITS_3, .int 16 tt_BITS_4, .int 32 tt_BITS_5, .int 64 tt_BITS_6, .int 128 tt_BITS_7, .int 256 tt_BITS_8, .int 512 tt_BITS_9, .int 1024 tt_BITS_10, .int 2048 tt_BITS_11] tN_BITS, tS_BITS⟩)
    (q_MOST_PAGES : PySem.W.nsIn K mainGlobals "MOST_PAGES" = some (some (.int 12 tt_MOST_PAGES)))
    (z_abs : PySem.W.nsIn K mainGlobals "abs" = some none)
    (z_all : PySem.W.nsIn K mainGlobals "all" = some none)
    (z_bool : PySem.W.nsIn K mainGlobals "bool" = some none)
    (z_enumerate : PySem.W.nsIn K mainGlobals "enumerate" = some none)
    (z_int : PySem.W.nsIn K mainGlobals "int" = some none)
    (z_isinstance : PySem.W.nsIn K mainGlobals "isinstance" = some none)
    (z_len : PySem.W.nsIn K mainGlobals "len" = some none)
    (z_list : PySem.W.nsIn K mainGlobals "list" = some none)
    (z_max : PySem.W.nsIn K mainGlobals "max" = some none)
    (z_min : PySem.W.nsIn K mainGlobals "min" = some none)
    (z_range : PySem.W.nsIn K mainGlobals "range" = some none)
    (z_repr : PySem.W.nsIn K mainGlobals "repr" = some none)
    (z_set : PySem.W.nsIn K mainGlobals "set" = some none)
    (z_sorted : PySem.W.nsIn K mainGlobals "sorted" = some none)
    (z_sum : PySem.W.nsIn K mainGlobals "sum" = some none) :
    ∃ fd : FuncData, (∀ (s : Shared) (v : Value), BindsTo s fd ⟨[v], []⟩ [("_law_script", v)]) ∧ ∀ base : Heap, K.In base → base.Ns mainGlobals mg → FnG l.prog w K mg base CX0 15 fa fd ["_law_script"] (spLaw K) := by
  have e := hfa.symm.trans (PySem.W.mg_of X G a17)
  cases e
  let T : Txt K mg := ⟨f0, _, fun_mk (st := s_is_integer) l0 c0 k0, PySem.W.mg_of X G a0, (fun_mk (st := s_is_integer) l0 c0 k0).binds fun _ _ _ _ _ _ us hl => match us, hl with | [_, _, _], _ => rfl,
    f1, _, fun_mk (st := s_is_row) l1 c1 k1, PySem.W.mg_of X G a1, (fun_mk (st := s_is_row) l1 c1 k1).binds fun _ _ _ _ _ _ us hl => match us, hl with | [_, _, _], _ => rfl,
    f2, _, fun_mk (st := s_is_site) l2 c2 k2, PySem.W.mg_of X G a2, (fun_mk (st := s_is_site) l2 c2 k2).binds fun _ _ _ _ _ _ us hl => match us, hl with | [_], _ => rfl,
    f3, _, fun_mk (st := s_check_site) l3 c3 k3, PySem.W.mg_of X G a3, (fun_mk (st := s_check_site) l3 c3 k3).binds fun _ _ _ _ _ _ us hl => match us, hl with | [_], _ => rfl,
    f4, _, fun_mk (st := s_check_page) l4 c4 k4, PySem.W.mg_of X G a4, (fun_mk (st := s_check_page) l4 c4 k4).binds fun _ _ _ _ _ _ us hl => match us, hl with | [_, _], _ => rfl,
    f5, _, fun_mk (st := s_has_bit) l5 c5 k5, PySem.W.mg_of X G a5, (fun_mk (st := s_has_bit) l5 c5 k5).binds fun _ _ _ _ _ _ us hl => match us, hl with | [_, _], _ => rfl,
    f6, _, fun_mk (st := s_longer_ways) l6 c6 k6, PySem.W.mg_of X G a6, (fun_mk (st := s_longer_ways) l6 c6 k6).binds fun _ _ _ _ _ _ us hl => match us, hl with | [_, _], _ => rfl,
    f7, _, fun_mk (st := s_trails_from) l7 c7 k7, PySem.W.mg_of X G a7, (fun_mk (st := s_trails_from) l7 c7 k7).binds fun _ _ _ _ _ _ us hl => match us, hl with | [_, _], _ => rfl,
    f8, _, fun_mk (st := s_count_trails) l8 c8 k8, PySem.W.mg_of X G a8, (fun_mk (st := s_count_trails) l8 c8 k8).binds fun _ _ _ _ _ _ us hl => match us, hl with | [_, _], _ => rfl,
    f9, _, fun_mk (st := s_law_pool) l9 c9 k9, PySem.W.mg_of X G a9, (fun_mk (st := s_law_pool) l9 c9 k9).binds fun _ _ _ _ _ _ us hl => match us, hl with | [_, _], _ => rfl,
    f10, _, fun_mk (st := s_law_draw) l10 c10 k10, PySem.W.mg_of X G a10, (fun_mk (st := s_law_draw) l10 c10 k10).binds fun _ _ _ _ _ _ us hl => match us, hl with | [_, _], _ => rfl,
    f11, _, fun_mk (st := s_law_net) l11 c11 k11, PySem.W.mg_of X G a11, (fun_mk (st := s_law_net) l11 c11 k11).binds fun _ _ _ _ _ _ us hl => match us, hl with | [_, _, _], _ => rfl,
    f12, _, fun_mk (st := s_law_behind) l12 c12 k12, PySem.W.mg_of X G a12, (fun_mk (st := s_law_behind) l12 c12 k12).binds fun _ _ _ _ _ _ us hl => match us, hl with | [_, _], _ => rfl,
    f13, _, fun_mk (st := s_law_ways) l13 c13 k13, PySem.W.mg_of X G a13, (fun_mk (st := s_law_ways) l13 c13 k13).binds fun _ _ _ _ _ _ us hl => match us, hl with | [_, _, _, _], _ => rfl,
    f14, _, fun_mk (st := s_law_first) l14 c14 k14, PySem.W.mg_of X G a14, (fun_mk (st := s_law_first) l14 c14 k14).binds fun _ _ _ _ _ _ us hl => match us, hl with | [_, _, _], _ => rfl,
    f15, _, fun_mk (st := s_law_right) l15 c15 k15, PySem.W.mg_of X G a15, (fun_mk (st := s_law_right) l15 c15 k15).binds fun _ _ _ _ _ _ us hl => match us, hl with | [_, _], _ => rfl,
    f16, _, fun_mk (st := s_law_full_right) l16 c16 k16, PySem.W.mg_of X G a16, (fun_mk (st := s_law_full_right) l16 c16 k16).binds fun _ _ _ _ _ _ us hl => match us, hl with | [_], _ => rfl,
    fa, _, fun_mk (st := s_law) l17 c17 k17, PySem.W.mg_of X G a17, (fun_mk (st := s_law) l17 c17 k17).binds fun _ _ _ _ _ _ us hl => match us, hl with | [_], _ => rfl,
    tA_BITS, PySem.W.mg_of X G q_BITS, ⟨_, _, _, ql_BITS, rfl, rfl, sz_ok (Nat.le_of_ble_eq_true rfl), (.cons ⟨_, rfl⟩ (.cons ⟨_, rfl⟩ (.cons ⟨_, rfl⟩ (.cons ⟨_, rfl⟩ (.cons ⟨_, rfl⟩ (.cons ⟨_, rfl⟩ (.cons ⟨_, rfl⟩ (.cons ⟨_, rfl⟩ (.cons ⟨_, rfl⟩ (.cons ⟨_, rfl⟩ (.cons ⟨_, rfl⟩ (.cons ⟨_, rfl⟩ .nil))))))))))))⟩,
    tt_MOST_PAGES, PySem.W.mg_of X G q_MOST_PAGES,
    PySem.W.mg_none_of X G z_abs,
    PySem.W.mg_none_of X G z_all,
    PySem.W.mg_none_of X G z_bool,
    PySem.W.mg_none_of X G z_enumerate,
    PySem.W.mg_none_of X G z_int,
    PySem.W.mg_none_of X G z_isinstance,
    PySem.W.mg_none_of X G z_len,
    PySem.W.mg_none_of X G z_list,
    PySem.W.mg_none_of X G z_max,
    PySem.W.mg_none_of X G z_min,
    PySem.W.mg_none_of X G z_range,
    PySem.W.mg_none_of X G z_repr,
    PySem.W.mg_none_of X G z_set,
    PySem.W.mg_none_of X G z_sorted,
    PySem.W.mg_none_of X G z_sum⟩
  exact ⟨T.fd_law, fun s v => .of_eq rfl, fun base _ _ => ok_law T⟩
end LW
open PySem PySem.W PyProof.Rows
set_option maxHeartbeats 0 in
theorem PySem.Challenge.cw_breadcrumbs_k79_trails_of_large_sites_holds : PySem.Challenge.rw_breadcrumbs_k79_trails_of_large_sites.Holds := by
  w_on; o_law; k_head; (case hw => w_witness2)
  k_fill
  refine BC.walk_G (l := PySem.Challenge.rw_breadcrumbs_k79_trails_of_large_sites) (n := 63) (k := 15) (x := "_law_script") (sp := fun w => LW.spLaw _) rfl (by decide) rfl ⟨rfl, by decide, by decide⟩ (fun w h Y => PySem.W.kIn_of Y) ?F (fun w H a ns hl hS => ⟨a, ns, rfl, hS, hl, fun _ => rfl⟩)
  case F =>
    intro w mg fa h KX G hmg
    refine' LW.all_mk KX G hmg ?a0 ?l0 ?c0 ?k0 ?a1 ?l1 ?c1 ?k1 ?a2 ?l2 ?c2 ?k2 ?a3 ?l3 ?c3 ?k3 ?a4 ?l4 ?c4 ?k4 ?a5 ?l5 ?c5 ?k5 ?a6 ?l6 ?c6 ?k6 ?a7 ?l7 ?c7 ?k7 ?a8 ?l8 ?c8 ?k8 ?a9 ?l9 ?c9 ?k9 ?a10 ?l10 ?c10 ?k10 ?a11 ?l11 ?c11 ?k11 ?a12 ?l12 ?c12 ?k12 ?a13 ?l13 ?c13 ?k13 ?a14 ?l14 ?c14 ?k14 ?a15 ?l15 ?c15 ?k15 ?a16 ?l16 ?c16 ?k16 ?a17 ?l17 ?c17 ?k17 ?q_BITS ?ql_BITS ?q_MOST_PAGES ?z_abs ?z_all ?z_bool ?z_enumerate ?z_int ?z_isinstance ?z_len ?z_list ?z_max ?z_min ?z_range ?z_repr ?z_set ?z_sorted ?z_sum
    (case a0 => k_is); (case l0 => k_is); (case c0 => k_is); (case k0 => k_is); (case a1 => k_is); (case l1 => k_is); (case c1 => k_is); (case k1 => k_is); (case a2 => k_is); (case l2 => k_is); (case c2 => k_is); (case k2 => k_is); (case a3 => k_is); (case l3 => k_is); (case c3 => k_is); (case k3 => k_is); (case a4 => k_is); (case l4 => k_is); (case c4 => k_is); (case k4 => k_is); (case a5 => k_is); (case l5 => k_is); (case c5 => k_is); (case k5 => k_is); (case a6 => k_is); (case l6 => k_is); (case c6 => k_is); (case k6 => k_is); (case a7 => k_is); (case l7 => k_is); (case c7 => k_is); (case k7 => k_is); (case a8 => k_is); (case l8 => k_is); (case c8 => k_is); (case k8 => k_is); (case a9 => k_is); (case l9 => k_is); (case c9 => k_is); (case k9 => k_is); (case a10 => k_is); (case l10 => k_is); (case c10 => k_is); (case k10 => k_is); (case a11 => k_is); (case l11 => k_is); (case c11 => k_is); (case k11 => k_is); (case a12 => k_is); (case l12 => k_is); (case c12 => k_is); (case k12 => k_is); (case a13 => k_is); (case l13 => k_is); (case c13 => k_is); (case k13 => k_is); (case a14 => k_is); (case l14 => k_is); (case c14 => k_is); (case k14 => k_is); (case a15 => k_is); (case l15 => k_is); (case c15 => k_is); (case k15 => k_is); (case a16 => k_is); (case l16 => k_is); (case c16 => k_is); (case k16 => k_is); (case a17 => k_is); (case l17 => k_is); (case c17 => k_is); (case k17 => k_is); (case q_BITS => k_is); (case ql_BITS => k_is); (case q_MOST_PAGES => k_is); (case z_abs => k_is); (case z_all => k_is); (case z_bool => k_is); (case z_enumerate => k_is); (case z_int => k_is); (case z_isinstance => k_is); (case z_len => k_is); (case z_list => k_is); (case z_max => k_is); (case z_min => k_is); (case z_range => k_is); (case z_repr => k_is); (case z_set => k_is); (case z_sorted => k_is); (case z_sum => k_is)

