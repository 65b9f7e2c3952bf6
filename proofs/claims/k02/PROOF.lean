import PyProof.Rows.All
import Wide.All
import OpenK.AllK
import Wide.FinOn
import HandS.ForMost
import HandS.ForExc
import HandS.Walk
import HandS.IsInst
import HandS.StrMore
import HandS.Flow
import HandS.Style
import HandS.RaiseMore
import HandS.TupLe
import HandS.Deep
import HandS.Replace
import KE.LtData
import PySem.Challenge.RW_walkshome_k02_whole_reduction_is_conflue
set_option Elab.async false
set_option linter.all false
set_option maxRecDepth 100000
set_option maxHeartbeats 4000000
namespace Hx
open PySem PySem.Spec PyProof.Rows L2
/-! ## heaps -/
section
variable {H H1 H2 : Hp} {a p : Addr} {o u : HO} {K : PySem.W.Frag} {xs : List V}
theorem u_old (np : H p = none) (h : H a = some o) : upd H p u a = some o := by rw [upd_ne (ne_of_none h np)]; exact h
theorem u_oth (ne : a ≠ p) (h : H a = some o) : upd H p u a = some o := by rw [upd_ne ne]; exact h
theorem u_oth' (ne : p ≠ a) (h : H a = some o) : upd H p u a = some o := u_oth ne.symm h
theorem s_new (e : Same H H1) (np : H1 p = none) : Same H (upd H1 p u) := fun b x q => u_old np (e b x q)
theorem s_mut (e : Same H H1) (np : H p = none) : Same H (upd H1 p u) := fun b x q => by rw [upd_ne (ne_of_none q np)]; exact e b x q
theorem sq_of (h : H a = some (.lst xs)) : SqL K H a xs := .inl (.inl h)
theorem st_of (h : H a = some (.tup xs)) : SqT K H a xs := .inl (.inl h)
theorem sq_same (e : Same H H1) (h : SqL K H a xs) : SqL K H1 a xs := e.seq h
theorem sq_old (np : H p = none) (h : SqL K H a xs) : SqL K (upd H p u) a xs := (s_new (Same.refl H) np).seq h
theorem sq_oth (ne : a ≠ p) (h : SqL K H a xs) : SqL K (upd H p u) a xs := by
  rcases h with (h | ⟨o, h⟩) | h
  · exact .inl (.inl (u_oth ne h))
  · exact .inl (.inr ⟨o, u_oth ne h⟩)
  · exact .inr h
theorem f_same (e : Same H H1) (h : H1 p = none) : H p = none := e.free h
theorem f_upd (h : upd H p u a = none) : H a = none := by
  by_cases e : a = p
  · subst e; rw [upd_same] at h; cases h
  · rw [upd_ne e] at h; exact h
theorem n_upd (h : upd H p u a = none) : a ≠ p := fun e => by subst e; rw [upd_same] at h; cases h
theorem f_u2 {p2 : Addr} {u2 : HO} (h : upd (upd H p u) p2 u2 a = none) : H a = none := f_upd (f_upd h)
theorem f_u3 {p2 p3 : Addr} {u2 u3 : HO} (h : upd (upd (upd H p u) p2 u2) p3 u3 a = none) : H a = none := f_upd (f_u2 h)
theorem f_u4 {p2 p3 p4 : Addr} {u2 u3 u4 : HO} (h : upd (upd (upd (upd H p u) p2 u2) p3 u3) p4 u4 a = none) : H a = none := f_upd (f_u3 h)
theorem f_u5 {p2 p3 p4 p5 : Addr} {u2 u3 u4 u5 : HO} (h : upd (upd (upd (upd (upd H p u) p2 u2) p3 u3) p4 u4) p5 u5 a = none) : H a = none := f_upd (f_u4 h)
theorem f_u6 {p2 p3 p4 p5 p6 : Addr} {u2 u3 u4 u5 u6 : HO} (h : upd (upd (upd (upd (upd (upd H p u) p2 u2) p3 u3) p4 u4) p5 u5) p6 u6 a = none) : H a = none := f_upd (f_u5 h)
theorem n_u2 {p2 : Addr} {u2 : HO} (h : upd (upd H p u) p2 u2 a = none) : a ≠ p := fun e => by subst e; have := f_upd h; rw [upd_same] at this; cases this
theorem n_u3 {p2 p3 : Addr} {u2 u3 : HO} (h : upd (upd (upd H p u) p2 u2) p3 u3 a = none) : a ≠ p := n_u2 (f_upd h)
theorem n_u4 {p2 p3 p4 : Addr} {u2 u3 u4 : HO} (h : upd (upd (upd (upd H p u) p2 u2) p3 u3) p4 u4 a = none) : a ≠ p := n_u3 (f_upd h)
theorem n_u5 {p2 p3 p4 p5 : Addr} {u2 u3 u4 u5 : HO} (h : upd (upd (upd (upd (upd H p u) p2 u2) p3 u3) p4 u4) p5 u5 a = none) : a ≠ p := n_u4 (f_upd h)
theorem n_at (h : H p = some o) (n : H a = none) : a ≠ p := fun e => by rw [e, h] at n; cases n
theorem f_new (ne : a ≠ p) (h : H a = none) : upd H p u a = none := by rw [upd_ne ne]; exact h
/-- all but p is kept -/
def But (p : Addr) (H H' : Hp) : Prop := ∀ b o, b ≠ p → H b = some o → H' b = some o
theorem But.refl (p : Addr) (H : Hp) : But p H H := fun _ _ _ h => h
theorem But.of (e : Same H H1) : But p H H1 := fun b o _ h => e b o h
theorem But.trans (e : But p H H1) (f : But p H1 H2) : But p H H2 := fun b o n h => f b o n (e b o n h)
theorem But.new {q : Addr} (e : But p H H1) (nq : H1 q = none) : But p H (upd H1 q u) := fun b o n h => u_old nq (e b o n h)
theorem But.mut {q : Addr} (e : But p H H1) (nq : H q = none) : But p H (upd H1 q u) := fun b o n h => by rw [upd_ne (ne_of_none h nq)]; exact e b o n h
theorem But.own (e : But p H H1) : But p H (upd H1 p u) := fun b o n h => by rw [upd_ne n]; exact e b o n h
theorem But.seq (e : But p H H1) (n : a ≠ p) (h : SqL K H a xs) : SqL K H1 a xs := by
  rcases h with (h | ⟨o, h⟩) | h
  · exact .inl (.inl (e _ _ n h))
  · exact .inl (.inr ⟨o, e _ _ n h⟩)
  · exact .inr h
/-- behind But p, what was p's is new: But p becomes Same where p is new -/
theorem But.same (e : But p H1 H2) (f : Same H H1) (np : H p = none) : Same H H2 := fun b o h => e b o (ne_of_none h np) (f b o h)
theorem But.free (e : But p H H1) {b : Addr} (n : b ≠ p) (h : H1 b = none) : H b = none := by
  cases q : H b with
  | none => rfl
  | some o => rw [e b o n q] at h; cases h
end
/-! ## readings -/
section
variable {σ : L2.St} {H : Hp} {Q : VK} {v x y z : V} {ta tb te tc : TE} {D : Ends} {t u : TS} {c d : TT} {K : PySem.W.Frag} {p a : Addr} {i j : Int} {k : Nat} {xs : List V} {B : Bool → Hp → Prop} {QA : List V → Hp → Prop} {r : R2}
theorem g_var (e : σ[k]? = some (some v)) (q : Q v H) : tVar k σ H Q := ⟨v, e, q⟩
theorem g_c (q : Q v H) : tC v σ H Q := q
theorem g_op (q : ta σ H fun x H1 => tb σ H1 fun y H2 => r x y H2 Q) : tOp r ta tb σ H Q := q
theorem g_un {r : V → Hp → VK → Prop} (q : ta σ H fun x H1 => r x H1 Q) : tUn r ta σ H Q := q
theorem g_seq (q : t { D with nx := u D } σ H) : tSeq t u D σ H := q
theorem g_next (q : D.nx σ H) : tNext D σ H := q
theorem g_brk (q : D.bk σ H) : tBreak D σ H := q
theorem g_cont (q : D.ct σ H) : tCont D σ H := q
theorem g_asg {g : TG} (q : te σ H fun x H1 => g x σ H1 D.nx) : tAsg te g D σ H := q
theorem g_name {Q : L2.St → Hp → Prop} (q : Q (σ.set k (some v)) H) : gName k v σ H Q := q
theorem g_drop (q : te σ H fun _ H1 => D.nx σ H1) : tDrop te D σ H := q
theorem g_ret (q : te σ H D.rt) : tRet te D σ H := q
theorem g_retN (q : D.rt .non H) : tRetN D σ H := q
theorem g_ifS (q : c σ H fun b H1 => if b = true then t D σ H1 else u D σ H1) : tIfS c t u D σ H := q
theorem g_if (q : c σ H fun b H1 => if b = true then ta σ H1 Q else tb σ H1 Q) : tIf c ta tb σ H Q := q
theorem g_test (q : te σ H fun x H' => ∃ k, x = .bl k ∧ B k H') : tTest te σ H B := q
theorem g_tB (q : te σ H fun x H' => ∃ k, x = .bl k ∧ B k H') : tB te σ H B := q
theorem g_exb {b : Bool} {P : Bool → Prop} (q : P b) : ∃ k, V.bl b = .bl k ∧ P k := ⟨b, rfl, q⟩
theorem g_and (q : c σ H fun b H1 => if b = true then d σ H1 B else B false H1) : tAnd c d σ H B := q
theorem g_or (q : c σ H fun b H1 => if b = true then B true H1 else d σ H1 B) : tOr c d σ H B := q
theorem g_not (q : c σ H fun b H1 => B (!b) H1) : tNot c σ H B := q
theorem g_andV (q : ta σ H fun x H1 => ∃ c, x = .bl c ∧ if c = true then tb σ H1 Q else Q (.bl false) H1) : tAndV ta tb σ H Q := q
theorem g_orV (q : ta σ H fun x H1 => ∃ c, x = .bl c ∧ if c = true then Q (.bl true) H1 else tb σ H1 Q) : tOrV ta tb σ H Q := q
theorem g_notV (q : ta σ H fun x H1 => ∃ c, x = .bl c ∧ Q (.bl (!c)) H1) : tNotV ta σ H Q := q
theorem g_nil (q : QA [] H) : tNil σ H QA := q
theorem g_cons {tr : TA} (q : ta σ H fun x H1 => tr σ H1 fun xs H2 => QA (x :: xs) H2) : tCons ta tr σ H QA := q
theorem g_tup {t : TA} (q : t σ H fun xs H1 => xs.length ≤ sizeLine ∧ ∀ p, H1 p = none → Q (.ref p) (upd H1 p (.tup xs))) : tTup t σ H Q := q
theorem g_lst {t : TA} (q : t σ H fun xs H1 => xs.length ≤ sizeLine ∧ ∀ p, H1 p = none → Q (.ref p) (upd H1 p (.lst xs))) : tLst t σ H Q := q
theorem g_sz {R : Prop} (h : xs.length ≤ 1000) (q : R) : xs.length ≤ sizeLine ∧ R := ⟨Nat.le_trans h (by decide), q⟩
theorem g_call {sp : Sp} {dvs : List V} {E : XK} {t : TA} (q : t σ H fun vs H1 => sp (vs ++ dvs) H1 Q E) : tCall sp dvs E t σ H Q := q
theorem g_callK {sp : Sp} {gV} {E : XK} {t tk : TA} (q : t σ H fun vs H1 => tk σ H1 fun zs H2 => sp (gV vs zs) H2 Q E) : tCallK sp gV E t tk σ H Q := q
theorem g_CB {r : List V → Hp → VK → Prop} {t : TA} (q : t σ H fun vs H1 => r vs H1 Q) : tCB r t σ H Q := q
theorem g_chain {r r' : R2} (q : ta σ H fun x H1 => tb σ H1 fun y H2 => r x y H2 fun z H3 => ∃ k, z = .bl k ∧ (if k = true then tc σ H3 fun w' H4 => r' y w' H4 Q else Q (.bl false) H3)) : tChain r r' ta tb tc σ H Q := q
theorem g_sl {r} {tl th : TO} (q : te σ H fun x H1 => tl σ H1 fun l H2 => th σ H2 fun u H3 => r x l u H3 Q) : tSl r te tl th σ H Q := q
theorem g_nopart {QO : Option Int → Hp → Prop} (q : QO none H) : tNoPart σ H QO := q
theorem g_part {QO : Option Int → Hp → Prop} (q : te σ H fun x H1 => ∃ i, x = .int i ∧ QO (some i) H1) : tPart te σ H QO := q
theorem g_exi {P : Int → Prop} (q : P i) : ∃ k, V.int i = .int k ∧ P k := ⟨i, rfl, q⟩
theorem g_bm {T : String} {r} {to : TE} {t : TA} (q : to σ H fun x H1 => tyV K T x H1 ∧ t σ H1 fun xs H2 => r x xs H2 Q) : tBM K T r to t σ H Q := q
theorem g_bm0 {T : String} {r} {to : TE} (q : to σ H fun x H1 => tyV K T x H1 ∧ r x [] H1 Q) : tBM0 K T r to σ H Q := q
theorem g_m0 {r} {to : TE} (q : to σ H fun x H1 => (∃ a, x = .str a) ∧ r x [] H1 Q) : tM0 r to σ H Q := q
theorem g_m1 {r} {to te : TE} (q : to σ H fun x H1 => (∃ a, x = .str a) ∧ te σ H1 fun y H2 => r x [y] H2 Q) : tM1 r to te σ H Q := q
theorem g_exs {s : Str} {R : Prop} (q : R) : (∃ a, V.str s = .str a) ∧ R := ⟨⟨s, rfl⟩, q⟩
theorem g_tyS {s : Str} {R : Prop} (q : R) : tyV K "str" (.str s) H ∧ R := ⟨rfl, q⟩
theorem g_tyL {R : Prop} (h : SqL K H p xs) (q : R) : tyV K "list" (.ref p) H ∧ R := ⟨Or.inl ⟨rfl, _, h⟩, q⟩
theorem g_fld {f : Str} (q : ta σ H fun x H1 => ∃ a C dx fs v, x = .ref a ∧ H1 a = some (.ins C dx fs) ∧ Cls K C ∧ NoAttr K C f ∧ fs.lookup f = some v ∧ Q v H1) : tFld K ta f σ H Q := q
theorem g_meth {C : Addr} {m : Str} {sp : Sp} {dvs : List V} {E : XK} {t : TA} (q : ta σ H fun x H1 => ∃ a dx fs, x = .ref a ∧ H1 a = some (.ins C dx fs) ∧ fs.lookup m = none ∧ t σ H1 fun vs H2 => sp (x :: (vs ++ dvs)) H2 Q E) : tMeth C m sp dvs E ta t σ H Q := q
theorem g_for {wi : TI} {g : TG} {tb : TS} (q : wi σ H fun J H1 => ∃ W : Nat → Nat → L2.St → Hp → Prop, (∃ m, W 0 m σ H1) ∧ ∀ i m σ H, W i m σ H →
      (J.stop i H ∧ D.nx σ H) ∨ (J.go i H ∧ ∃ N : L2.St → Hp → Prop, (∀ σ' H', N σ' H' → ∃ m', m' < m ∧ W (i + 1) m' σ' H') ∧ ∀ x H', J.yld i H x H' → g x σ H' fun σ2 H2 => tb { D with nx := N, ct := N, bk := D.nx } σ2 H2)) : tFor wi g tb D σ H := q
theorem g_lc {wi : TI} {g : TG} {tt : TT} {vs : List Nat} (q : wi σ H fun J H1 => ∀ D, H1 D = none → ∃ W : Nat → Nat → Hp → Prop, (∃ m, W 0 m (upd H1 D (.lst []))) ∧ ∀ i m H, W i m H →
  (J.stop i H ∧ Q (.ref D) H) ∨ (J.go i H ∧ ∃ Nx : Hp → Prop, (∀ H', Nx H' → ∃ m', m' < m ∧ W (i + 1) m' H') ∧ ∀ x H', J.yld i H x H' → g x (wipe σ vs) H' fun σ2 H2 => wipe σ2 vs = wipe σ vs ∧ tt σ2 H2 fun b H3 =>
    if b = true then te σ2 H3 fun y H4 => ∃ acc, H4 D = some (.lst acc) ∧ acc.length < sizeLine ∧ Nx (upd H4 D (.lst (acc ++ [y]))) else Nx H3)) : tLc wi g tt te vs σ H Q := q
theorem g_yes {P : Bool → Hp → Prop} (q : P true H) : tYes σ H P := q
theorem g_aug {ti : TIp} (e : σ[k]? = some (some x)) (q : te σ H fun y H1 => ti x y H1 fun z H2 => D.nx (σ.set k (some z)) H2) : tAug k te ti D σ H := ⟨x, e, q⟩
theorem g_ipI {f : Int → Int → Int} (q : Q (.int (f i j)) H) : ipI f (.int i) (.int j) H Q := ⟨i, j, rfl, rfl, q⟩
/-! sources -/
variable {R : It → Hp → Prop}
theorem g_iList (q : ta σ H fun x H1 => ∃ a, x = .ref a ∧ (∃ xs, SqL K H1 a xs) ∧ R (Itl K a) H1) : iList K ta σ H R := q
theorem g_srcL {P : Addr → Prop} (h : SqL K H a xs) (q : P a) : ∃ a', V.ref a = .ref a' ∧ (∃ xs, SqL K H a' xs) ∧ P a' := ⟨a, rfl, ⟨xs, h⟩, q⟩
theorem g_iStr (q : ta σ H fun v H1 => ∃ x, v = .str x ∧ R (Its x) H1) : iStr ta σ H R := q
theorem g_exstr {s : Str} {P : Str → Prop} (q : P s) : ∃ x, V.str s = .str x ∧ P x := ⟨s, rfl, q⟩
theorem g_iRng1 {t : TA} (q : t σ H fun vs H1 => ∃ j : Int, vs = [.int j] ∧ -(2 ^ 62) ≤ j ∧ j < 2 ^ 62 ∧ R (Itr 0 j.toNat) H1) : iRng1 t σ H R := q
theorem g_srcR {j : Int} {P : Int → Prop} (h : -1000000000 ≤ j ∧ j ≤ 1000000000) (q : P j) : ∃ j' : Int, [V.int j] = [.int j'] ∧ -(2 ^ 62) ≤ j' ∧ j' < 2 ^ 62 ∧ P j' := ⟨j, rfl, by omega, by omega, q⟩
/-! ## operators by values -/
theorem g_rI0 {g : Int → Int → V} (q : Q (g i j) H) : rI0 g (.int i) (.int j) H Q := ⟨i, j, rfl, rfl, q⟩
theorem g_rU {g : Int → V} (q : Q (g i) H) : rU g (.int i) H Q := ⟨i, rfl, q⟩
theorem g_rI {C : Int → Int → Prop} {g : Int → Int → V} (c : C i j) (q : Q (g i j) H) : rI C g (.int i) (.int j) H Q := ⟨i, j, rfl, rfl, c, q⟩
def rAddU : R2 := fun x y H Q => rI0 (fun i j => .int (i + j)) x y H Q ∨ ((∃ i j, x = .str i ∧ y = .str j ∧ i.length + j.length ≤ sizeLine ∧ Q (.str (i ++ j)) H) ∨ rCat x y H Q)
theorem op_addU {X : Cx} : OpR X (binaryOp .Add) rAddU := op_add.or (op_add_str.or op_cat)
theorem g_addI (q : Q (.int (i + j)) H) : rAddU (.int i) (.int j) H Q := .inl ⟨i, j, rfl, rfl, q⟩
theorem g_addS {a b : Str} (h : a.length + b.length ≤ sizeLine) (q : Q (.str (a ++ b)) H) : rAddU (.str a) (.str b) H Q := .inr (.inl ⟨a, b, rfl, rfl, h, q⟩)
theorem g_addL {l b : Addr} {xs zs : List V} (h1 : H l = some (.lst xs)) (h2 : H b = some (.lst zs)) (h : xs.length + zs.length ≤ sizeLine) (q : ∀ p, H p = none → Q (.ref p) (upd H p (.lst (xs ++ zs)))) : rAddU (.ref l) (.ref b) H Q :=
  .inr (.inr ⟨l, b, xs, zs, rfl, rfl, h1, h2, h, q⟩)
theorem g_mul (c : CMul i j) (q : Q (.int (i * j)) H) : rI CMul (fun i j => .int (i * j)) (.int i) (.int j) H Q := ⟨i, j, rfl, rfl, c, q⟩
theorem g_mod (c : 0 < j) (q : Q (.int (i % j)) H) : rI (fun _ j => 0 < j) (fun i j => .int (i % j)) (.int i) (.int j) H Q := ⟨i, j, rfl, rfl, c, q⟩
theorem g_div (c : CDiv i j) (q : Q (.int (i / j)) H) : rI CDiv (fun i j => .int (i / j)) (.int i) (.int j) H Q := ⟨i, j, rfl, rfl, c, q⟩
theorem g_pow (c : CPow i j) (q : Q (.int (i ^ j.toNat)) H) : rI CPow (fun i j => .int (i ^ j.toNat)) (.int i) (.int j) H Q := ⟨i, j, rfl, rfl, c, q⟩
theorem g_eqS (h : scal x y = true) (q : Q (.bl (decide (x = y))) H) : rEq x y H Q := ⟨h, q⟩
theorem g_neS (h : scal x y = true) (q : Q (.bl (!decide (x = y))) H) : rNe x y H Q := ⟨h, q⟩
/-! items: a list, a tuple, a text -/
theorem g_ixL (h : SqL K H p xs) (e : atI xs i = some v) (q : Q v H) : rIx K (.ref p) (.int i) H Q := .inl ⟨p, xs, i, v, rfl, rfl, h, e, q⟩
theorem g_ixT (h : SqT K H p xs) (e : atI xs i = some v) (q : Q v H) : rIx K (.ref p) (.int i) H Q := .inr (.inl ⟨p, xs, i, v, rfl, rfl, h, e, q⟩)
theorem g_ixS {s : Str} {n : Nat} (hl : s.length ≤ sizeLine) (e : atI s.cps.toList i = some n) (q : Q (.str ⟨#[n]⟩) H) : rIx K (.str s) (.int i) H Q := .inr (.inr ⟨s, i, n, rfl, rfl, hl, e, q⟩)
/-! slices: a list, a text -/
def rSlU (K : PySem.W.Frag) : V → Option Int → Option Int → Hp → VK → Prop := fun x lo hi H Q => rSlL K x lo hi H Q ∨ rSlS x lo hi H Q
theorem sl_U {X : Cx} : SlR X (rSlU X.K) := sl_list.or sl_str
theorem g_slL {lo hi : Option Int} (h : SqL K H a xs) (q : ∀ p, H p = none → Q (.ref p) (upd H p (.lst (cutV xs lo hi)))) : rSlU K (.ref a) lo hi H Q := .inl ⟨a, xs, rfl, h, q⟩
theorem g_slS {lo hi : Option Int} {z : Str} (h : z.length ≤ sizeLine) (q : Q (.str (cutS z lo hi)) H) : rSlU K (.str z) lo hi H Q := .inr ⟨z, rfl, h, q⟩
/-! tests -/
theorem g_nT {A B : Prop} (q : B) : if (!true) = true then A else B := q
theorem g_nF {A B : Prop} (q : A) : if (!false) = true then A else B := q
theorem g_yesD {P : Prop} [Decidable P] {A B : Prop} (h : P) (q : A) : if decide P = true then A else B := by rw [if_pos (decide_eq_true h)]; exact q
theorem g_noD {P : Prop} [Decidable P] {A B : Prop} (h : ¬P) (q : B) : if decide P = true then A else B := by rw [if_neg (by simp [h])]; exact q
theorem g_byD {P : Prop} [Decidable P] {A B : Prop} (h1 : P → A) (h2 : ¬P → B) : if decide P = true then A else B := by
  by_cases h : P
  · exact g_yesD h (h1 h)
  · exact g_noD h (h2 h)
theorem g_byN {P : Prop} [Decidable P] {A B : Prop} (h1 : ¬P → A) (h2 : P → B) : if (!decide P) = true then A else B := by
  by_cases h : P
  · rw [if_neg (by simp [h])]; exact h2 h
  · rw [if_pos (by simp [h])]; exact h1 h
theorem g_by {b : Bool} {A B : Prop} (h1 : b = true → A) (h2 : b = false → B) : if b = true then A else B := by
  cases b
  · exact iteF (h2 rfl)
  · exact iteT (h1 rfl)
end
end Hx
namespace Hx
open PySem PySem.Spec PyProof.Rows L2
/-! ## further rules -/
section
variable {X : Cx} {σ : L2.St} {H : Hp} {Q : VK} {K : PySem.W.Frag} {v x y : V} {p a b : Addr} {i j : Int} {xs ys : List V} {z : Str}
theorem pe_gS {n s : Str} {pos : Pos} (h : ∃ t, X.mg n = some (.str s t)) (hg : Gl X n := by rfl) (hd : (n == ("__debug__" : Str)) = false := by decide) : PE X (.Name n pos) (tC (.str s)) := by
  obtain ⟨t, h⟩ := h
  exact pe_glob hg h ⟨t, rfl⟩ hd
theorem pe_gI {n : Str} {i : Int} {pos : Pos} (h : ∃ t, X.mg n = some (.int i t)) (hg : Gl X n := by rfl) (hd : (n == ("__debug__" : Str)) = false := by decide) : PE X (.Name n pos) (tC (.int i)) := by
  obtain ⟨t, h⟩ := h
  exact pe_glob hg h ⟨t, rfl⟩ hd
/-! len -/
def rLenU (K : PySem.W.Frag) : List V → Hp → VK → Prop := fun xs H Q => ∃ x n, xs = [x] ∧ LenV K x H n ∧ Q (.int n) H
theorem call_lenU : CallR X (.builtin "len") (rLenU X.K) := call_len
theorem g_lenS (h : z.length ≤ sizeLine) (q : Q (.int (z.length : Nat)) H) : rLenU K [.str z] H Q := ⟨.str z, _, rfl, ⟨h, rfl⟩, q⟩
theorem g_lenL (h : SqL K H a xs) (q : Q (.int (xs.length : Nat)) H) : rLenU K [.ref a] H Q := ⟨.ref a, _, rfl, .inl ⟨_, h, rfl⟩, q⟩
theorem g_lenT (h : SqT K H a xs) (q : Q (.int (xs.length : Nat)) H) : rLenU K [.ref a] H Q := ⟨.ref a, _, rfl, .inr ⟨_, h, rfl⟩, q⟩
/-! max, min of two ints, all, any -/
def rMaxU (K : PySem.W.Frag) : List V → Hp → VK → Prop := fun xs H Q => (∃ i j, xs = [.int i, .int j] ∧ Q (.int (if j > i then j else i)) H) ∨ rMax K xs H Q
theorem call_maxU (hc : X.calm = true) : CallR X (.builtin "max") (rMaxU X.K) := (call_max2 hc).or (cr_max hc)
theorem g_max2 (q : Q (.int (max i j)) H) : rMaxU K [.int i, .int j] H Q := .inl ⟨i, j, rfl, by
  have e : (if j > i then j else i) = max i j := by split <;> omega
  rw [e]; exact q⟩
def rMinU (K : PySem.W.Frag) : List V → Hp → VK → Prop := fun xs H Q => (∃ i j, xs = [.int i, .int j] ∧ Q (.int (if j < i then j else i)) H) ∨ rMin K xs H Q
theorem call_minU (hc : X.calm = true) : CallR X (.builtin "min") (rMinU X.K) := (call_min2 hc).or (cr_min hc)
theorem g_min2 (q : Q (.int (min i j)) H) : rMinU K [.int i, .int j] H Q := .inl ⟨i, j, rfl, by
  have e : (if j < i then j else i) = min i j := by split <;> omega
  rw [e]; exact q⟩
def rInt1 : List V → Hp → VK → Prop := fun xs H Q => (∃ i, xs = [.int i] ∧ Q (.int i) H) ∨ ∃ k, xs = [.bl k] ∧ Q (.int (if k then 1 else 0)) H
theorem call_int1U : CallR X (.type "int") rInt1 := call_int1
theorem g_intB {k : Bool} (q : Q (.int (if k then 1 else 0)) H) : rInt1 [.bl k] H Q := .inr ⟨k, rfl, q⟩
theorem g_all {bs : List Bool} (h : SqL K H a (bs.map V.bl)) (q : Q (.bl (bs.all id)) H) : rAll K [.ref a] H Q := ⟨a, bs, rfl, h, q⟩
theorem g_any {bs : List Bool} (h : SqL K H a (bs.map V.bl)) (q : Q (.bl (bs.any id)) H) : rAny K [.ref a] H Q := ⟨a, bs, rfl, h, q⟩
/-! isinstance -/
theorem call_isiU : CallR X (.builtin "isinstance") (rIsi X.K) := call_isi
theorem g_isi {c : V} {t u : Value} {k : Bool} (hc : ClsV c u) (ht : TyX K H x t) (e : PySem.W.kitOne K t u = some k) (q : Q (.bl k) H) : rIsi K [x, c] H Q := ⟨x, c, t, u, k, rfl, hc, ht, e, q⟩
/-! repr of an int, a bool -/
def rReprU : List V → Hp → VK → Prop := fun xs H Q => (∃ i, xs = [.int i] ∧ i.natAbs.log2 < 1920 ∧ Q (.str (toString i)) H) ∨ ∃ k : Bool, xs = [.bl k] ∧ Q (.str (if k then "True" else "False")) H
theorem call_repr_bool : CallR X (.builtin "repr") (fun xs H Q => ∃ k : Bool, xs = [.bl k] ∧ Q (.str (if k then "True" else "False")) H) := by
  intro pins s σ H xs us Q I r h
  obtain ⟨k, rfl, q⟩ := h
  obtain ⟨u, rfl, ru⟩ := vals1 r
  cases (show u = Value.bool k from ru)
  exact PySem.P.repr_of_bool ⟨.str _, H, I.tok _, ⟨_, rfl⟩, q⟩
theorem call_reprU : CallR X (.builtin "repr") rReprU := SkE.call_repr_int.or call_repr_bool
theorem g_reprB {k : Bool} (q : Q (.str (if k then "True" else "False")) H) : rReprU [.bl k] H Q := .inr ⟨k, rfl, q⟩
/-! == and <, of any data -/
def rEqU (K : PySem.W.Frag) : R2 := fun x y H Q => rEq x y H Q ∨ rEqD K x y H Q
theorem op_eqU (hu : X.A.units + 64 < cLine) : OpR X (compareOp .Eq) (rEqU X.K) := op_eq.or (op_eqD hu)
def rNeU (K : PySem.W.Frag) : R2 := fun x y H Q => rNe x y H Q ∨ rNeD K x y H Q
theorem op_neU (hu : X.A.units + 64 < cLine) : OpR X (compareOp .NotEq) (rNeU X.K) := op_ne.or (op_neD hu)
theorem g_eqU (h : scal x y = true) (q : Q (.bl (decide (x = y))) H) : rEqU K x y H Q := .inl ⟨h, q⟩
theorem g_neU (h : scal x y = true) (q : Q (.bl (!decide (x = y))) H) : rNeU K x y H Q := .inl ⟨h, q⟩
theorem g_eqI (q : Q (.bl (decide (i = j))) H) : rEqU K (.int i) (.int j) H Q := .inl ⟨rfl, by rw [decide_eq_decide.mpr (show V.int i = V.int j ↔ i = j from ⟨V.int.inj, congrArg _⟩)]; exact q⟩
theorem g_neI (q : Q (.bl (!decide (i = j))) H) : rNeU K (.int i) (.int j) H Q := .inl ⟨rfl, by rw [decide_eq_decide.mpr (show V.int i = V.int j ↔ i = j from ⟨V.int.inj, congrArg _⟩)]; exact q⟩
theorem g_eqS2 {s z : Str} (q : Q (.bl (decide (s = z))) H) : rEqU K (.str s) (.str z) H Q := .inl ⟨rfl, by rw [decide_eq_decide.mpr (show V.str s = V.str z ↔ s = z from ⟨V.str.inj, congrArg _⟩)]; exact q⟩
theorem g_neS2 {s z : Str} (q : Q (.bl (!decide (s = z))) H) : rNeU K (.str s) (.str z) H Q := .inl ⟨rfl, by rw [decide_eq_decide.mpr (show V.str s = V.str z ↔ s = z from ⟨V.str.inj, congrArg _⟩)]; exact q⟩
theorem g_eqB {s z : Bool} (q : Q (.bl (decide (s = z))) H) : rEqU K (.bl s) (.bl z) H Q := .inl ⟨rfl, by rw [decide_eq_decide.mpr (show V.bl s = V.bl z ↔ s = z from ⟨V.bl.inj, congrArg _⟩)]; exact q⟩
theorem g_neB {s z : Bool} (q : Q (.bl (!decide (s = z))) H) : rNeU K (.bl s) (.bl z) H Q := .inl ⟨rfl, by rw [decide_eq_decide.mpr (show V.bl s = V.bl z ↔ s = z from ⟨V.bl.inj, congrArg _⟩)]; exact q⟩
theorem g_eqD {d e : PyData} (hd : Dp K H x d) (he : Dp K H y e) (sd : SeqAt.shaped d = true) (se : SeqAt.shaped e = true) (q : Q (.bl (PyData.eqv d e)) H) : rEqU K x y H Q := .inr ⟨d, e, hd, he, sd, se, q⟩
theorem g_neD {d e : PyData} (hd : Dp K H x d) (he : Dp K H y e) (sd : SeqAt.shaped d = true) (se : SeqAt.shaped e = true) (q : Q (.bl (!PyData.eqv d e)) H) : rNeU K x y H Q := .inr ⟨d, e, hd, he, sd, se, q⟩
def rLtD (K : PySem.W.Frag) : R2 := fun x y H Q => ∃ d e, Dp K H x d ∧ Dp K H y e ∧ PySem.W.alike d e = true ∧ d ≠ .none ∧ d.depth ≤ 60 ∧ Q (.bl (PySem.W.dataLt d e)) H
theorem op_ltD (hu : X.A.units + 64 < cLine) : OpR X (compareOp .Lt) (rLtD X.K) := by
  intro pins s σ H x y v u Q I rx ry h
  obtain ⟨d, e, hd, he, al, nn, dp, q⟩ := h
  obtain ⟨as, r1⟩ := Dp.reads I d x v hd rx
  obtain ⟨bs, r2⟩ := Dp.reads I e y u he ry
  exact PySem.W.rcLt_alike d e _ _ _ _ _ _ r1 r2 al nn (by omega) _ _ _ _ ⟨.bl _, H, I, rfl, q⟩
def rLtU (K : PySem.W.Frag) : R2 := fun x y H Q => rI0 (fun i j => .bl (decide (i < j))) x y H Q ∨ rLtD K x y H Q
theorem op_ltU (hu : X.A.units + 64 < cLine) : OpR X (compareOp .Lt) (rLtU X.K) := op_lt.or (op_ltD hu)
theorem g_ltI (q : Q (.bl (decide (i < j))) H) : rLtU K (.int i) (.int j) H Q := .inl ⟨i, j, rfl, rfl, q⟩
theorem g_ltD {d e : PyData} (hd : Dp K H x d) (he : Dp K H y e) (al : PySem.W.alike d e = true) (nn : d ≠ .none) (dp : d.depth ≤ 60) (q : Q (.bl (PySem.W.dataLt d e)) H) : rLtU K x y H Q := .inr ⟨d, e, hd, he, al, nn, dp, q⟩
/-! texts -/
theorem g_inS {c : Nat} {z : Str} (q : Q (.bl (decide (c ∈ z.cps.toList))) H) : (∃ (c' : Nat) (z' : Str), V.str ⟨#[c]⟩ = .str ⟨#[c']⟩ ∧ V.str z = .str z' ∧ Q (.bl (decide (c' ∈ z'.cps.toList))) H) := ⟨c, z, rfl, rfl, q⟩
theorem mt_swapcase : MtR X "str.swapcase" (fun x xs H Q => ∃ a, x = .str a ∧ xs = [] ∧ a.length ≤ 5592405 ∧ Q (.str (Txt.swapcase a)) H) :=
  mt0 (C := fun a => a.length ≤ 5592405) (g := fun a => .str (Txt.swapcase a)) fun a _ s _ hc h =>
    PySem.SC.swapcase (PyProof.Rows.short24 (by have h1 : a.length ≤ 5592405 := hc; have := PyProof.Rows.len_swapcase a; omega)) (h _ (s.toks + 1) ⟨_, rfl⟩)
theorem g_m0c {g : Str → V} {C : Str → Prop} (hc : C z) (q : Q (g z) H) : ∃ a, V.str z = .str a ∧ ([] : List V) = [] ∧ C a ∧ Q (g a) H := ⟨z, rfl, rfl, hc, q⟩
theorem g_join {p : Addr} {l : List Str} (h : SqL K H p (l.map V.str)) (hz : (l.map (·.length)).sum + l.length * z.length ≤ 16777216) (q : Q (.str (Txt.join z l)) H) :
    ∃ a p', ∃ ys : List Str, V.str z = .str a ∧ [V.ref p] = [.ref p'] ∧ (SqL K H p' (ys.map V.str) ∨ SqT K H p' (ys.map V.str)) ∧ (ys.map (·.length)).sum + ys.length * a.length ≤ 16777216 ∧ Q (.str (Txt.join a ys)) H :=
  ⟨z, p, l, rfl, rfl, .inl h, hz, q⟩
/-! keywords alone -/
theorem pe_callK0 {CX : CXT} {k : Nat} {f : Addr} {fd : FuncData} {ps ks : List Str} {sp : Sp} {E : XK} {x : Str} {p pos : Pos} {kws : List Keyword} {tk : TA} {g : List Value → List Value → List Value} {gV : List V → List V → List V}
    (F : FnOk X.prog X.w X.K X.mg X.base CX k f fd ps sp) (hr : Room k X.A) (hg : Gl X x) (hm : X.mg x = some (.ref f)) (hk : PySem.W.keepIn X.K (.ref f) = true) (hb : KBinds X.K fd ps ks g gV) (hx : Passes CX X E)
    (hkw : PK X kws tk) (hall : (backToKw pos (keywordEach kws X.env)).all (·.1.isSome) = true := by rfl) (hks : (backToKw pos (keywordEach kws X.env)).filterMap (·.1) = ks := by rfl)
    (hdb : (x == ("__debug__" : Str)) = false := by decide)
    (hpl : ((backTo pos (starEach [] X.env)).any (·.1) || (backToKw pos (keywordEach kws X.env)).any (·.1.isNone)) = false := by rfl) :
    PE X (.Call (.Name x p) [] kws pos) (tCallK sp gV E tNil tk) := by
  refine ⟨fun pins s σ H Q I h => ?_⟩
  refine wpAny_Call_Name_kw (ld_glob I hg hm ?_ hdb)
  refine PySem.W.callWith_KW0 (h₀ := X.base) I.ok.mod.kin hk hall ?_ hpl
  refine thn (hkw.run pos pins s σ H _ I h) fun ws s2 ⟨zs, H2, I2, rz, q2⟩ => ⟨I2.kIn, ?_⟩
  rw [hks]
  exact run_fnk F hr hb hx I2 .nil rz q2
/-! targets, sources -/
theorem g_gtup {n : Nat} {t : TGs} {P : L2.St → Hp → Prop} (h : SqT K H a xs) (hl : xs.length = n) (q : t xs σ H P) : gTup K n t (.ref a) σ H P := ⟨a, xs, rfl, h, hl, q⟩
theorem g_gcons {t : TG} {u : TGs} {P : L2.St → Hp → Prop} (q : t v σ H fun σ' H' => u xs σ' H' P) : gCons t u (v :: xs) σ H P := ⟨v, xs, rfl, q⟩
theorem g_gnil {P : L2.St → Hp → Prop} (q : P σ H) : gNil [] σ H P := ⟨rfl, q⟩
theorem g_gsub {to ti : TE} {t : TSet} {P : L2.St → Hp → Prop} (q : to σ H fun o H1 => ti σ H1 fun i H2 => t o i v H2 fun H3 => P σ H3) : gSub to ti t v σ H P := q
theorem g_setL {i : Nat} {P : Hp → Prop} (h : H p = some (.lst xs)) (hi : i < xs.length) (q : P (upd H p (.lst (xs.set i v)))) : rSetL (.ref p) (.int (i : Nat)) v H P :=
  ⟨p, xs, _, i, rfl, rfl, h, by unfold ixN; rw [if_pos (by omega), if_pos (by omega)]; simp, q⟩
/-! * : ints; a text by an int -/
theorem fold_app (l : List (Array Nat)) (a : Array Nat) : (l.foldl (· ++ ·) a).toList = a.toList ++ (l.map Array.toList).flatten := by
  induction l generalizing a with
  | nil => simp
  | cons x r ih => rw [List.foldl_cons, ih]; simp
def mulS (z : Str) (n : Nat) : Str := ⟨((List.replicate n z.cps.toList).flatten).toArray⟩
theorem op_mulS : OpR X (binaryOp .Mult) (fun x y H Q => ∃ (z : Str) (n : Nat), x = .str z ∧ y = .int (n : Nat) ∧ n ≤ 1000000 ∧ z.length * n ≤ 1000000 ∧ z.length ≤ 1000000 ∧ Q (.str (mulS z n)) H) := by
  intro pins s σ H x y v u Q I rx ry h
  obtain ⟨z, n, rfl, rfl, hn, hz, hz1, q⟩ := h
  obtain ⟨t, rfl⟩ := rx
  obtain ⟨t', rfl⟩ := ry
  refine PySem.P.mul_str (by simp; omega) (fun h1 h2 => ?_) (fun h1 h2 => PyProof.Rows.short24 (by rw [Int.toNat_natCast]; omega)) ?_
  · have h3 : (9223372036854775807 : Int) / 1000000 ≤ (2 ^ 63 - 1) / (n : Int) := by
      have : (0 : Int) < (n : Int) := by omega
      rw [Int.le_ediv_iff_mul_le this]
      have : (9223372036854775807 : Int) / 1000000 * (n : Int) ≤ 9223372036854775807 / 1000000 * 1000000 := Int.mul_le_mul_of_nonneg_left (by omega) (by decide)
      omega
    have h4 : ((9223372036854775807 : Int) / 1000000) = 9223372036854 := by decide
    omega
  · have e0 : n = 0 → mulS z n = Str.empty := fun e => by subst e; rfl
    by_cases h1 : (n : Int) < 1
    · rw [if_pos h1]
      have := e0 (by omega)
      exact ⟨by rw [sizeLine_eq]; decide, .str (mulS z n), H, I.tok _, ⟨_, by rw [this]⟩, q⟩
    · rw [if_neg h1]
      by_cases h2 : (((n : Int) == 1) || z.length == 0) = true
      · rw [if_pos h2]
        have e : mulS z n = z := by
          unfold mulS
          rcases (Bool.or_eq_true _ _).mp h2 with h3 | h3
          · have : n = 1 := by have := eq_of_beq h3; omega
            subst this
            simp
          · have h3 : z.cps.size = 0 := eq_of_beq h3
            have : z.cps.toList = [] := by
              rw [← List.length_eq_zero_iff, Array.length_toList]; exact h3
            rw [this]
            cases z with
            | mk c =>
              have : c = #[] := Array.toList_inj.mp this
              subst this
              simp
        exact ⟨.str (mulS z n), H, I, ⟨t, by rw [e]⟩, q⟩
      · rw [if_neg h2]
        have e : mulS z n = ⟨(List.replicate (n : Int).toNat z.cps).foldl (· ++ ·) #[]⟩ := by
          unfold mulS
          congr 1
          apply Array.toList_inj.mp
          rw [fold_app, Int.toNat_natCast, List.map_replicate]
          simp
        refine ⟨?_, .str (mulS z n), H, I.tok _, ⟨_, by rw [e]⟩, q⟩
        rw [← e, sizeLine_eq]
        show (mulS z n).cps.size ≤ _
        unfold mulS
        have h5 : z.cps.size * n ≤ 1000000 := hz
        simp only [List.size_toArray, List.length_flatten, List.map_replicate, List.sum_replicate_nat, Array.length_toList]
        rw [Nat.mul_comm]
        omega
def rMulU : R2 := fun x y H Q => rI CMul (fun i j => .int (i * j)) x y H Q ∨ ∃ (z : Str) (n : Nat), x = .str z ∧ y = .int (n : Nat) ∧ n ≤ 1000000 ∧ z.length * n ≤ 1000000 ∧ z.length ≤ 1000000 ∧ Q (.str (mulS z n)) H
theorem op_mulU : OpR X (binaryOp .Mult) rMulU := op_mul.or op_mulS
theorem g_mulI (c : CMul i j) (q : Q (.int (i * j)) H) : rMulU (.int i) (.int j) H Q := .inl ⟨i, j, rfl, rfl, c, q⟩
theorem g_mulS {n : Nat} (h1 : n ≤ 1000000) (h2 : z.length * n ≤ 1000000) (h3 : z.length ≤ 1000000) (q : Q (.str (mulS z n)) H) : rMulU (.str z) (.int (n : Nat)) H Q := .inr ⟨z, n, rfl, rfl, h1, h2, h3, q⟩
/-! the same with the written part named -/
variable (hK : X.K = K)
include hK
theorem ix_seqK : IxR X (rIx K) := hK ▸ ix_seq
theorem sl_UK : SlR X (rSlU K) := hK ▸ sl_U
theorem op_eqUK (hu : X.A.units + 64 < cLine) : OpR X (compareOp .Eq) (rEqU K) := hK ▸ op_eqU hu
theorem op_neUK (hu : X.A.units + 64 < cLine) : OpR X (compareOp .NotEq) (rNeU K) := hK ▸ op_neU hu
theorem op_ltUK (hu : X.A.units + 64 < cLine) : OpR X (compareOp .Lt) (rLtU K) := hK ▸ op_ltU hu
theorem op_inK : OpR X (compareOp .In) (rIn K false) := hK ▸ op_in_seq
theorem op_notInK : OpR X (compareOp .NotIn) (rIn K true) := hK ▸ op_notIn_seq
theorem call_lenUK : CallR X (.builtin "len") (rLenU K) := hK ▸ call_lenU
theorem call_maxUK (hc : X.calm = true) : CallR X (.builtin "max") (rMaxU K) := hK ▸ call_maxU hc
theorem call_minUK (hc : X.calm = true) : CallR X (.builtin "min") (rMinU K) := hK ▸ call_minU hc
theorem call_allK (hc : X.calm = true) : CallR X (.builtin "all") (rAll K) := hK ▸ cr_all hc
theorem call_anyK (hc : X.calm = true) : CallR X (.builtin "any") (rAny K) := hK ▸ cr_any hc
theorem call_sumK (hc : X.calm = true) : CallR X (.builtin "sum") (rSum K) := hK ▸ cr_sum hc
theorem call_isiUK : CallR X (.builtin "isinstance") (rIsi K) := hK ▸ call_isiU
def rJoin (K : PySem.W.Frag) : V → List V → Hp → VK → Prop := fun x xs H Q => ∃ a p, ∃ ys : List Str, x = .str a ∧ xs = [.ref p] ∧ (SqL K H p (ys.map V.str) ∨ SqT K H p (ys.map V.str)) ∧ (ys.map (·.length)).sum + ys.length * a.length ≤ 16777216 ∧ Q (.str (Txt.join a ys)) H
theorem mt_joinK : MtR X "str.join" (rJoin K) := hK ▸ mt_join
theorem pi_listK {tg l : Expr} {tl : TE} (hl : PE X l tl) : PI X tg l (iList K tl) := hK ▸ pi_list hl
theorem pg_tupK {es : List Expr} {k : Nat} {pos : Pos} {t : TGs} {n : Nat} (hc : X.calm = true) (h : PGs X es t)
    (hn : (assignEach es X.env).length = n := by rfl) (hst : (assignEach es X.env).findIdx? (·.1) = none := by rfl) : PG X (.Tuple es k pos) (gTup K n t) := hK ▸ pg_tup hc h hn hst
theorem pe_bmK {e : Expr} {to : TE} {t : TA} {T : String} {r : V → List V → Hp → VK → Prop} (h : PE X e (tBM X.K T r to t)) : PE X e (tBM K T r to t) := hK ▸ h
theorem pe_bm0K {e : Expr} {to : TE} {T : String} {r : V → List V → Hp → VK → Prop} (h : PE X e (tBM0 X.K T r to)) : PE X e (tBM0 K T r to) := hK ▸ h
theorem pe_fldK {e : Expr} {ta : TE} {f : Str} (h : PE X e (tFld X.K ta f)) : PE X e (tFld K ta f) := hK ▸ h
omit hK
theorem g_joinK {p : Addr} {l : List Str} (h : SqL K H p (l.map V.str)) (hz : (l.map (·.length)).sum + l.length * z.length ≤ 16777216) (q : Q (.str (Txt.join z l)) H) : rJoin K (.str z) [.ref p] H Q := ⟨z, p, l, rfl, rfl, .inl h, hz, q⟩
/-! any source: a list, a tuple, a text -/
def iAny (K : PySem.W.Frag) (te : TE) : TI := fun σ H R => te σ H fun x H1 => (∃ a, x = .ref a ∧ (∃ xs, SqL K H1 a xs) ∧ R (Itl K a) H1) ∨ (∃ a, x = .ref a ∧ (∃ xs, SqT K H1 a xs) ∧ R (Itt K a) H1) ∨ ∃ z, x = .str z ∧ R (Its z) H1
theorem pi_anyK {tg e : Expr} {te : TE} (hK : X.K = K) (he : PE X e te) : PI X tg e (iAny K te) := by
  subst hK
  constructor
  intro pins s σ H R I h
  refine thn (he.run pins s σ H _ I h) ?_
  rintro v s1 ⟨y, H1, I1, r1, w⟩
  rcases w with ⟨a, rfl, ⟨xs, hq⟩, q⟩ | ⟨a, rfl, ⟨xs, hq⟩, q⟩ | ⟨z, rfl, q⟩
  · cases r1
    obtain ⟨its, -, p, -⟩ := I1.list hq
    exact wpAny_pyIter_list p.isList (pi_one (tk := s1.toks) I1 _ (turn_list a _) ⟨_, Heap.get?_push_size _ rfl, rfl, rfl⟩ q)
  · cases r1
    obtain ⟨its, -, p, -⟩ := I1.tuple hq
    exact wpAny_pyIter_tuple (show s1.heap.IsTuple a its.toArray from p) (pi_one (tk := s1.toks) I1 _ (turn_tuple a _) ⟨_, Heap.get?_push_size _ rfl, rfl, rfl⟩ q)
  · obtain ⟨t, rfl⟩ := r1
    cases b : z.cps.all (· < 128) with
    | false => exact wpAny_pyIter_wide b (pi_one (tk := s1.toks) I1 _ (turn_str _ z t "str_iterator" (.inr rfl)) ⟨_, Heap.get?_push_size _ rfl, rfl, rfl⟩ q)
    | true => exact wpAny_pyIter_ascii b (pi_one (tk := s1.toks) I1 _ (turn_str _ z t "str_ascii_iterator" (.inl rfl)) ⟨_, Heap.get?_push_size _ rfl, rfl, rfl⟩ q)
theorem g_iAny {ta : TE} {R : It → Hp → Prop} (q : ta σ H fun x H1 => (∃ a, x = .ref a ∧ (∃ xs, SqL K H1 a xs) ∧ R (Itl K a) H1) ∨ (∃ a, x = .ref a ∧ (∃ xs, SqT K H1 a xs) ∧ R (Itt K a) H1) ∨ ∃ z, x = .str z ∧ R (Its z) H1) : iAny K ta σ H R := q
theorem g_anyL {P P2 : Addr → Prop} {P3 : Str → Prop} (h : SqL K H a xs) (q : P a) : (∃ a', V.ref a = .ref a' ∧ (∃ xs, SqL K H a' xs) ∧ P a') ∨ (∃ a', V.ref a = .ref a' ∧ (∃ xs, SqT K H a' xs) ∧ P2 a') ∨ ∃ z, V.ref a = .str z ∧ P3 z := .inl ⟨a, rfl, ⟨xs, h⟩, q⟩
theorem g_anyT {P P2 : Addr → Prop} {P3 : Str → Prop} (h : SqT K H a xs) (q : P2 a) : (∃ a', V.ref a = .ref a' ∧ (∃ xs, SqL K H a' xs) ∧ P a') ∨ (∃ a', V.ref a = .ref a' ∧ (∃ xs, SqT K H a' xs) ∧ P2 a') ∨ ∃ z, V.ref a = .str z ∧ P3 z := .inr (.inl ⟨a, rfl, ⟨xs, h⟩, q⟩)
theorem g_anyS {P P2 : Addr → Prop} {P3 : Str → Prop} (q : P3 z) : (∃ a', V.str z = .ref a' ∧ (∃ xs, SqL K H a' xs) ∧ P a') ∨ (∃ a', V.str z = .ref a' ∧ (∃ xs, SqT K H a' xs) ∧ P2 a') ∨ ∃ z', V.str z = .str z' ∧ P3 z' := .inr (.inr ⟨z, rfl, q⟩)
/-! x[::-1], a text -/
theorem rev_ix (n : Nat) : Builtin.Str.strSliceIndices none none (-1) n = (List.range n).reverse := by
  rw [← PySem.W.krv_range n, ← PySem.W.krv_sliceRange n]
  rfl
def tRevS (te : TE) : TE := fun σ H Q => te σ H fun x H1 => ∃ z, x = .str z ∧ z.length ≤ sizeLine ∧ Q (.str ⟨z.cps.toList.reverse.toArray⟩) H1
theorem pe_revS {e : Expr} {te : TE} {k : Nat} {p1 p2 p3 pos : Pos} (he : PE X e te) : PE X (.Subscript e (.Slice none none (some (.UnaryOp .USub (.Constant (.int 1) k p1) p2)) p3) pos) (tRevS te) := by
  constructor
  intro pins s σ H Q I h
  refine Subscript_ (thn (he.run pins s σ H _ I h) ?_)
  rintro v s1 ⟨x, H1, I1, r1, z, rfl, hz, q⟩
  obtain ⟨t, rfl⟩ := r1
  have hst : PO X (some (.UnaryOp .USub (.Constant (.int 1) k p1) p2)) (tPart (tUn (rU fun i => .int (-i)) (tC (.int 1)))) := po_some (pe_un un_neg pe_int)
  refine wpAny_Slice (thn (po_none.run pins s1 σ H1 (fun o H2 => o = none ∧ H2 = H1) I1 ⟨rfl, rfl⟩) ?_)
  rintro vl s2 ⟨l, H2, I2, pl, rfl, rfl⟩
  refine thn (po_none.run pins s2 σ H2 (fun o H3 => o = none ∧ H3 = H2) I2 ⟨rfl, rfl⟩) ?_
  rintro vu s3 ⟨u, H3, I3, pu, rfl, rfl⟩
  refine thn (hst.run pins s3 σ H3 (fun o H4 => o = some (-1) ∧ H4 = H3) I3 ⟨1, rfl, -1, rfl, rfl, rfl⟩) ?_
  rintro vs s4 ⟨o, H4, I4, ps, rfl, rfl⟩
  have I5 : Inv X pins σ H4 { s4 with heap := s4.heap.push { cls := .type "slice", data := .fields #[vl, vu, vs] } } := I4.kept (t' := s4.toks) fun b ob q => Heap.get?_push_of_some _ q
  obtain ⟨l', rfl, el⟩ := IsPart.raw pl
  obtain ⟨u', rfl, eu⟩ := IsPart.raw pu
  obtain ⟨k', rfl, ek⟩ := IsPart.raw ps
  cases l' with
  | some _ => cases el
  | none =>
    cases u' with
    | some _ => cases eu
    | none =>
      cases k' with
      | none => cases ek
      | some kk =>
        obtain ⟨ki, kt⟩ := kk
        have eki : ki = -1 := Option.some.inj ek
        subst eki
        show wpAny (model X.prog X.w) X.A (subscriptTail e (.Slice none none (some (.UnaryOp .USub (.Constant (.int 1) k p1) p2)) p3) (.str z t) (.ref s4.heap.objs.size)) (EP X pins σ Q) X.xe _
        refine tail_any (ops := [.ref s4.heap.objs.size, .str z t]) (typeIs_str _ _ _) F.slot_str_getitem.lookup ?_ (by with_unfolding_all rfl)
        refine wpAny_getItem_str_slice (l := none) (u := none) (st := some (-1, kt)) ⟨_, Heap.get?_push_size _ rfl, rfl, rfl⟩ rfl ?_
        have hp : slicePicked z none none (some (-1, kt)) = (List.range z.length).reverse := rev_ix z.length
        have er : ((List.range z.length).reverse.filterMap (z.cps[·]?)) = z.cps.toList.reverse := by
          rw [List.filterMap_reverse, show z.length = z.cps.size from rfl, PySem.W.krv_all]
        show (sliceMade z t none none (some (-1, kt))).post _ _
        unfold sliceMade
        rw [if_neg (by intro h; simp at h), hp, er]
        refine ⟨?_, .str _, H4, I5.tok _, ⟨_, rfl⟩, q⟩
        show z.cps.toList.reverse.toArray.size ≤ sizeLine
        rw [List.size_toArray, List.length_reverse, Array.length_toList]
        exact hz
theorem g_revS {te : TE} (q : te σ H fun x H1 => ∃ z, x = .str z ∧ z.length ≤ sizeLine ∧ Q (.str ⟨z.cps.toList.reverse.toArray⟩) H1) : tRevS te σ H Q := q
theorem g_revS1 {P : Str → Prop} (h : z.length ≤ sizeLine) (q : P z) : ∃ z', V.str z = .str z' ∧ z'.length ≤ sizeLine ∧ P z' := ⟨z, rfl, h, q⟩
theorem g_pop {y : V} {xs : List V} (h : H p = some (.lst (xs ++ [y]))) (q : Q y (upd H p (.lst xs))) : rPop (.ref p) [] H Q := ⟨p, _, y, rfl, rfl, h, by simp, by rw [List.dropLast_concat]; exact q⟩
theorem g_append {y : V} {xs : List V} (h : H p = some (.lst xs)) (hz : xs.length < 16000000) (q : Q .non (upd H p (.lst (xs ++ [y])))) : rAppend (.ref p) [y] H Q := ⟨p, xs, y, rfl, rfl, h, by rw [sizeLine_eq]; omega, q⟩
/-- a list or a tuple at a -/
def Sq (K : PySem.W.Frag) (H : Hp) (a : Addr) (xs : List V) : Prop := SqL K H a xs ∨ SqT K H a xs
theorem st_same {H' : Hp} (e : Same H H') (h : SqT K H a xs) : SqT K H' a xs := by
  rcases h with (h | ⟨o, h⟩) | h
  · exact .inl (.inl (e _ _ h))
  · exact .inl (.inr ⟨o, e _ _ h⟩)
  · exact .inr h
theorem Sq.same {H' : Hp} (e : Same H H') (h : Sq K H a xs) : Sq K H' a xs := h.elim (fun h => .inl (sq_same e h)) fun h => .inr (st_same e h)
theorem g_anySq {H0 : Hp} {ta : TE} {R : It → Hp → Prop} (e : ∀ Q : VK, Q (.ref a) H → ta σ H Q) (h : Sq K H0 a xs) (e0 : Same H0 H) (q : ∀ J G, Walk J xs.length G (YAt xs) → (∀ H', Same H0 H' → G H') → R J H) : iAny K ta σ H R :=
  e _ (h.elim (fun h => .inl ⟨a, rfl, ⟨xs, sq_same e0 h⟩, q _ _ walk_list fun _ e => sq_same e h⟩) fun h => .inr (.inl ⟨a, rfl, ⟨xs, st_same e0 h⟩, q _ _ walk_tup fun _ e => st_same e h⟩))
theorem g_lenSq (h : Sq K H a xs) (q : Q (.int (xs.length : Nat)) H) : rLenU K [.ref a] H Q := h.elim (fun h => g_lenL h q) fun h => g_lenT h q
end
end Hx
/-! short words (local): go = the readings' own steps; hp, sq = what stands at an address; same = all kept -/
local macro_rules | `(tactic| walk_at "hx len") => `(tactic| (first
  | (obtain ⟨_, rfl, _⟩ := h; rfl) | (obtain ⟨_, _, rfl, _⟩ := h; rfl) | (obtain ⟨_, _, _, rfl, _⟩ := h; rfl) | (obtain ⟨_, _, _, _, rfl, _⟩ := h; rfl)
  | (obtain ⟨_, _, _, _, _, rfl, _⟩ := h; rfl) | (obtain ⟨_, _, _, _, _, _, rfl, _⟩ := h; rfl) | (obtain ⟨_, _, _, _, _, _, _, rfl, _⟩ := h; rfl) | (obtain ⟨rfl, _⟩ := h; rfl)))
local macro_rules | `(tactic| walk_at "hx free") => `(tactic| (first
  | assumption
  | with_reducible exact Hx.f_upd (by assumption) | with_reducible exact Hx.f_u2 (by assumption) | with_reducible exact Hx.f_u3 (by assumption)
  | with_reducible exact Hx.f_u4 (by assumption) | with_reducible exact Hx.f_u5 (by assumption) | with_reducible exact Hx.f_u6 (by assumption)
  | ((with_reducible refine Hx.f_same ?_ (by assumption)); walk_at "hx same")
  | ((with_reducible refine Hx.f_new (by walk_at "hx ne") ?_); walk_at "hx free")))
local macro_rules | `(tactic| walk_at "hx ne") => `(tactic| (first
  | assumption
  | (refine Ne.symm ?_; assumption)
  | with_reducible exact Hx.n_upd (by assumption) | with_reducible exact Hx.n_u2 (by assumption) | with_reducible exact Hx.n_u3 (by assumption) | with_reducible exact Hx.n_u4 (by assumption) | with_reducible exact Hx.n_u5 (by assumption)
  | with_reducible exact (Hx.n_upd (by assumption)).symm | with_reducible exact (Hx.n_u2 (by assumption)).symm | with_reducible exact (Hx.n_u3 (by assumption)).symm | with_reducible exact (Hx.n_u4 (by assumption)).symm
  | with_reducible exact Hx.n_at (by assumption) (by assumption) | with_reducible exact (Hx.n_at (by assumption) (by assumption)).symm))
local macro_rules | `(tactic| walk_at "hx hp") => `(tactic| (first
  | assumption
  | with_reducible exact L2.upd_same
  | ((with_reducible refine Hx.u_old (by walk_at "hx free") ?_); walk_at "hx hp")
  | ((with_reducible refine Hx.u_oth (by walk_at "hx ne") ?_); walk_at "hx hp")
  | ((with_reducible refine (by assumption : L2.Same _ _) _ _ ?_); walk_at "hx hp")))
local macro_rules | `(tactic| walk_at "hx sq") => `(tactic| (first
  | assumption
  | ((with_reducible refine Hx.sq_of ?_); walk_at "hx hp")
  | ((with_reducible refine Hx.sq_old (by walk_at "hx free") ?_); walk_at "hx sq")
  | ((with_reducible refine Hx.sq_oth (by walk_at "hx ne") ?_); walk_at "hx sq")
  | ((with_reducible refine Hx.sq_same (by assumption) ?_); walk_at "hx sq")))
local macro_rules | `(tactic| walk_at "hx same") => `(tactic| (first
  | assumption
  | with_reducible exact L2.Same.refl _
  | ((with_reducible refine Hx.s_new ?_ (by walk_at "hx free")); walk_at "hx same")
  | ((with_reducible refine Hx.s_mut ?_ (by walk_at "hx free")); walk_at "hx same")))
local macro_rules | `(tactic| walk_at "hx one") => `(tactic| (first
  | with_reducible refine Hx.g_seq ?_ | with_reducible refine Hx.g_asg ?_ | with_reducible refine Hx.g_op ?_
  | ((with_reducible refine' Hx.g_var ?hxv ?_); case hxv => exact rfl)
  | with_reducible refine Hx.g_c ?_ | with_reducible refine Hx.g_name ?_ | with_reducible refine Hx.g_cons ?_ | with_reducible refine Hx.g_nil ?_
  | with_reducible refine Hx.g_call ?_ | with_reducible refine Hx.g_CB ?_ | with_reducible refine Hx.g_ret ?_ | with_reducible refine Hx.g_drop ?_
  | with_reducible refine Hx.g_ifS ?_ | with_reducible refine Hx.g_test ?_ | with_reducible refine Hx.g_tB ?_ | with_reducible refine Hx.g_exb ?_
  | with_reducible refine Hx.g_not ?_ | with_reducible refine Hx.g_and ?_ | with_reducible refine Hx.g_or ?_
  | with_reducible refine Hx.g_andV ?_ | with_reducible refine Hx.g_orV ?_ | with_reducible refine Hx.g_notV ?_
  | with_reducible refine Hx.g_addI ?_ | with_reducible refine Hx.g_rI0 ?_ | with_reducible refine Hx.g_rU ?_ | with_reducible refine Hx.g_un ?_
  | with_reducible refine Hx.g_eqI ?_ | with_reducible refine Hx.g_neI ?_ | with_reducible refine Hx.g_eqS2 ?_ | with_reducible refine Hx.g_neS2 ?_
  | with_reducible refine Hx.g_eqB ?_ | with_reducible refine Hx.g_neB ?_ | with_reducible refine Hx.g_ltI ?_
  | with_reducible refine Hx.g_tup ?_ | with_reducible refine Hx.g_lst ?_ | with_reducible refine Hx.g_callK ?_ | with_reducible refine Hx.g_chain ?_
  | with_reducible refine Hx.g_sl ?_ | with_reducible refine Hx.g_nopart ?_ | with_reducible refine Hx.g_part ?_ | with_reducible refine Hx.g_exi ?_
  | with_reducible refine Hx.g_bm ?_ | with_reducible refine Hx.g_bm0 ?_ | with_reducible refine Hx.g_m0 ?_ | with_reducible refine Hx.g_m1 ?_ | with_reducible refine Hx.g_exs ?_
  | with_reducible refine Hx.g_tyS ?_ | with_reducible refine Hx.g_fld ?_ | with_reducible refine Hx.g_meth ?_ | with_reducible refine Hx.g_for ?_ | with_reducible refine Hx.g_lc ?_
  | with_reducible refine Hx.g_yes ?_ | ((with_reducible refine' Hx.g_aug ?hxv ?_); case hxv => exact rfl) | with_reducible refine Hx.g_ipI ?_
  | with_reducible refine Hx.g_revS ?_
  | with_reducible refine Hx.g_iList ?_ | with_reducible refine Hx.g_iStr ?_ | with_reducible refine Hx.g_exstr ?_ | with_reducible refine Hx.g_iRng1 ?_
  | with_reducible refine Hx.g_max2 ?_ | with_reducible refine Hx.g_min2 ?_ | with_reducible refine Hx.g_intB ?_ | with_reducible refine Hx.g_reprB ?_
  | with_reducible refine Hx.g_if ?_ | with_reducible refine Hx.g_next ?_ | with_reducible refine Hx.g_brk ?_ | with_reducible refine Hx.g_cont ?_ | with_reducible refine Hx.g_retN ?_
  | with_reducible refine Hx.g_gcons ?_ | with_reducible refine Hx.g_gnil ?_ | with_reducible refine Hx.g_gsub ?_
  | with_reducible refine L2.iteT ?_ | with_reducible refine L2.iteF ?_ | with_reducible refine Hx.g_nT ?_ | with_reducible refine Hx.g_nF ?_))
local macro_rules | `(tactic| walk_at "hx go") => `(tactic| repeat (walk_at "hx one"))
namespace Pf
open PySem PySem.Spec PyProof.Rows L2 Hx
def topS (i : Nat) : Stmt := PySem.Challenge.pw_walkshome_k02_whole_reduction_is_conflue.main.body.getD i (.Pass ⟨0, 0, 0, 0⟩)
abbrev s_reduce_all : Stmt := topS 8
abbrev s_is_path : Stmt := topS 6
abbrev s_require_path : Stmt := topS 7
abbrev s_is_reduced : Stmt := topS 12
abbrev s_reduced : Stmt := topS 11
abbrev s_inverted : Stmt := topS 9
abbrev s_inverse : Stmt := topS 10
abbrev s_law_inverse_step : Stmt := topS 17
abbrev s_law_inverse : Stmt := topS 18
abbrev s_law_pairs : Stmt := topS 20
abbrev s_law_take : Stmt := topS 15
abbrev s_law_struck : Stmt := topS 21
abbrev s_law_right : Stmt := topS 23
abbrev s_law_reduced : Stmt := topS 19
abbrev s_law_wider : Stmt := topS 22
abbrev s_law_path : Stmt := topS 16
abbrev s_law_pool : Stmt := topS 14
abbrev s_law : Stmt := topS 24
structure Ad where
  a_reduce_all : Addr
  d_reduce_all : FuncData
  a_is_path : Addr
  d_is_path : FuncData
  a_require_path : Addr
  d_require_path : FuncData
  a_is_reduced : Addr
  d_is_reduced : FuncData
  a_reduced : Addr
  d_reduced : FuncData
  a_inverted : Addr
  d_inverted : FuncData
  a_inverse : Addr
  d_inverse : FuncData
  a_law_inverse_step : Addr
  d_law_inverse_step : FuncData
  a_law_inverse : Addr
  d_law_inverse : FuncData
  a_law_pairs : Addr
  d_law_pairs : FuncData
  a_law_take : Addr
  d_law_take : FuncData
  a_law_struck : Addr
  d_law_struck : FuncData
  a_law_right : Addr
  d_law_right : FuncData
  a_law_reduced : Addr
  d_law_reduced : FuncData
  a_law_wider : Addr
  d_law_wider : FuncData
  a_law_path : Addr
  d_law_path : FuncData
  a_law_pool : Addr
  d_law_pool : FuncData
  a_law : Addr
  d_law : FuncData
structure Txt (K : PySem.W.Frag) (mg : Str → Option Value) (A : Ad) : Prop where
  f_reduce_all : Fun K "reduce_all" "reduce_all" s_reduce_all A.a_reduce_all A.d_reduce_all
  g_reduce_all : mg "reduce_all" = some (.ref A.a_reduce_all)
  b_reduce_all : Binds K A.d_reduce_all ["parts"] []
  f_is_path : Fun K "is_path" "is_path" s_is_path A.a_is_path A.d_is_path
  g_is_path : mg "is_path" = some (.ref A.a_is_path)
  b_is_path : Binds K A.d_is_path ["value"] []
  f_require_path : Fun K "require_path" "require_path" s_require_path A.a_require_path A.d_require_path
  g_require_path : mg "require_path" = some (.ref A.a_require_path)
  b_require_path : Binds K A.d_require_path ["value"] []
  f_is_reduced : Fun K "is_reduced" "is_reduced" s_is_reduced A.a_is_reduced A.d_is_reduced
  g_is_reduced : mg "is_reduced" = some (.ref A.a_is_reduced)
  b_is_reduced : Binds K A.d_is_reduced ["path"] []
  f_reduced : Fun K "reduced" "reduced" s_reduced A.a_reduced A.d_reduced
  g_reduced : mg "reduced" = some (.ref A.a_reduced)
  b_reduced : Binds K A.d_reduced ["path"] []
  f_inverted : Fun K "inverted" "inverted" s_inverted A.a_inverted A.d_inverted
  g_inverted : mg "inverted" = some (.ref A.a_inverted)
  b_inverted : Binds K A.d_inverted ["steps"] []
  f_inverse : Fun K "inverse" "inverse" s_inverse A.a_inverse A.d_inverse
  g_inverse : mg "inverse" = some (.ref A.a_inverse)
  b_inverse : Binds K A.d_inverse ["path"] []
  f_law_inverse_step : Fun K "_law_inverse_step" "_law_inverse_step" s_law_inverse_step A.a_law_inverse_step A.d_law_inverse_step
  g_law_inverse_step : mg "_law_inverse_step" = some (.ref A.a_law_inverse_step)
  b_law_inverse_step : Binds K A.d_law_inverse_step ["_law_step"] []
  f_law_inverse : Fun K "_law_inverse" "_law_inverse" s_law_inverse A.a_law_inverse A.d_law_inverse
  g_law_inverse : mg "_law_inverse" = some (.ref A.a_law_inverse)
  b_law_inverse : Binds K A.d_law_inverse ["_law_path_here"] []
  f_law_pairs : Fun K "_law_pairs" "_law_pairs" s_law_pairs A.a_law_pairs A.d_law_pairs
  g_law_pairs : mg "_law_pairs" = some (.ref A.a_law_pairs)
  b_law_pairs : Binds K A.d_law_pairs ["_law_path_here"] []
  f_law_take : Fun K "_law_take" "_law_take" s_law_take A.a_law_take A.d_law_take
  g_law_take : mg "_law_take" = some (.ref A.a_law_take)
  b_law_take : Binds K A.d_law_take ["_law_pool_here", "_law_many"] []
  f_law_struck : Fun K "_law_struck" "_law_struck" s_law_struck A.a_law_struck A.d_law_struck
  g_law_struck : mg "_law_struck" = some (.ref A.a_law_struck)
  b_law_struck : Binds K A.d_law_struck ["_law_pool_here", "_law_path_here"] []
  f_law_right : Fun K "_law_right" "_law_right" s_law_right A.a_law_right A.d_law_right
  g_law_right : mg "_law_right" = some (.ref A.a_law_right)
  b_law_right : Binds K A.d_law_right ["_law_pool_here", "_law_path_here", "_law_due"] []
  f_law_reduced : Fun K "_law_reduced" "_law_reduced" s_law_reduced A.a_law_reduced A.d_law_reduced
  g_law_reduced : mg "_law_reduced" = some (.ref A.a_law_reduced)
  b_law_reduced : Binds K A.d_law_reduced ["_law_path_here"] []
  f_law_wider : Fun K "_law_wider" "_law_wider" s_law_wider A.a_law_wider A.d_law_wider
  g_law_wider : mg "_law_wider" = some (.ref A.a_law_wider)
  b_law_wider : Binds K A.d_law_wider ["_law_pool_here", "_law_path_here"] []
  f_law_path : Fun K "_law_path" "_law_path" s_law_path A.a_law_path A.d_law_path
  g_law_path : mg "_law_path" = some (.ref A.a_law_path)
  b_law_path : Binds K A.d_law_path ["_law_pool_here", "_law_most", "_law_letters"] []
  f_law_pool : Fun K "_law_pool" "_law_pool" s_law_pool A.a_law_pool A.d_law_pool
  g_law_pool : mg "_law_pool" = some (.ref A.a_law_pool)
  b_law_pool : Binds K A.d_law_pool ["_law_script", "_law_k"] []
  f_law : Fun K "law" "law" s_law A.a_law A.d_law
  g_law : mg "law" = some (.ref A.a_law)
  b_law : Binds K A.d_law ["_law_script"] []
  c_MAX_STEPS : ∃ t, mg "MAX_STEPS" = some (.int 400 t)
  c_STEPS : ∃ t, mg "STEPS" = some (.str "aAbBcCdD" t)
  z_all : mg "all" = none
  z_int : mg "int" = none
  z_isinstance : mg "isinstance" = none
  z_len : mg "len" = none
  z_max : mg "max" = none
  z_min : mg "min" = none
  z_range : mg "range" = none
  z_repr : mg "repr" = none
  z_str : mg "str" = none
section
variable {P : Program} {w : World} {K : PySem.W.Frag} {mg : Str → Option Value} {base : Heap} {A : Ad}
end
/-- the text of a list of codes -/
def S (l : List Nat) : Str := ⟨l.toArray⟩
theorem S_cps (l : List Nat) : (S l).cps.toList = l := by simp [S]
theorem S_len (l : List Nat) : (S l).length = l.length := by simp [S, Str.length]
theorem S_inj {l m : List Nat} (h : S l = S m) : l = m := by rw [← S_cps l, h, S_cps]
theorem S_of (z : Str) : z = S z.cps.toList := by cases z; simp [S]
theorem S_app (l m : List Nat) : S l ++ S m = S (l ++ m) := by
  show Str.append (S l) (S m) = _
  simp [Str.append, S]
theorem S_nil : (Str.ofString "") = S [] := by decide +kernel
theorem S_empty : Str.empty = S [] := rfl
def sg (c : Nat) : Str := S [c]
theorem sg_S (c : Nat) : (⟨#[c]⟩ : Str) = S [c] := rfl
theorem join_S : ∀ ls : List (List Nat), Txt.join (Str.ofString "") (ls.map S) = S ls.flatten := by
  intro ls
  rw [show ∀ (y : Str) (ps : List Str), Txt.join y ps = Str.join y ps from fun y ps => PySem.StrLaws.glued_eq_join y ps]
  induction ls with
  | nil => rfl
  | cons a r ih =>
    cases r with
    | nil => simp [Str.join]
    | cons b r =>
      show S a ++ Str.ofString "" ++ Str.join (Str.ofString "") ((b :: r).map S) = _
      rw [ih, S_nil, S_app, S_app]; simp
theorem join_sg (l : List Nat) : Txt.join (Str.ofString "") (l.map sg) = S l := by
  have := join_S (l.map fun c => [c])
  rw [List.map_map] at this
  rw [show (l.map sg) = l.map (S ∘ fun c => [c]) from rfl, this]
  congr 1
  clear this
  induction l with
  | nil => rfl
  | cons c r ih => rw [List.map_cons, List.flatten_cons, ih]; rfl
/-- the codes of the steps, in order -/
def stepC : List Nat := [97, 65, 98, 66, 99, 67, 100, 68]
theorem stepsS : (Str.ofString "aAbBcCdD") = S stepC := by decide +kernel
/-- a path: codes of steps -/
def IsP (l : List Nat) : Prop := ∀ c ∈ l, c ∈ stepC
theorem IsP.nil : IsP [] := fun _ h => by cases h
theorem IsP.app {l m : List Nat} (h : IsP l) (k : IsP m) : IsP (l ++ m) := fun c hc => (List.mem_append.mp hc).elim (h c) (k c)
theorem IsP.one {c : Nat} (h : c ∈ stepC) : IsP [c] := fun d hd => by rw [List.mem_singleton] at hd; subst hd; exact h
/-- the step at a place below eight -/
theorem step_at {d : Nat} (h : d < 8) : ∃ c, c ∈ stepC ∧ stepC[d]? = some c := ⟨stepC[d]'h, List.getElem_mem _, List.getElem?_eq_getElem h⟩
/-- the other case of a letter -/
def sw (c : Nat) : Nat := if 65 ≤ c ∧ c ≤ 90 then c + 32 else if 97 ≤ c ∧ c ≤ 122 then c - 32 else c
theorem sw_sw (c : Nat) : sw (sw c) = c := by
  unfold sw
  split
  · rw [if_neg (by omega), if_pos (by omega)]; omega
  · split
    · rw [if_pos (by omega)]; omega
    · rfl
theorem sw_inj {c d : Nat} (h : sw c = sw d) : c = d := by rw [← sw_sw c, h, sw_sw]
theorem sw_eq {c d : Nat} (h : c = sw d) : d = sw c := by rw [h, sw_sw]
theorem sw_step : ∀ c ∈ stepC, sw c ∈ stepC := by decide +kernel
theorem sw_lt : ∀ c ∈ stepC, c < 128 := by decide +kernel
theorem step_ok {l : List Nat} (h : IsP l) : ((S l).cps.all fun c => decide (c < 0x110000)) = true := by
  rw [← Array.all_toList, S_cps, List.all_eq_true]
  exact fun c hc => decide_eq_true (by have := sw_lt c (h c hc); omega)
/-- a letter laid upon a stack, or cancelled with the last one -/
def push : List Nat → Nat → List Nat
  | [], c => [c]
  | x :: r, c => if x = sw c then r else c :: x :: r
theorem push_cons (x : Nat) (r : List Nat) (c : Nat) : push (x :: r) c = if x = sw c then r else c :: x :: r := rfl
def runP (st : List Nat) (l : List Nat) : List Nat := l.foldl push st
/-- the free reduction -/
def red (l : List Nat) : List Nat := (runP [] l).reverse
/-- no letter beside its inverse -/
def Rd : List Nat → Prop
  | [] => True
  | [_] => True
  | x :: y :: r => x ≠ sw y ∧ Rd (y :: r)
theorem Rd.tail {x : Nat} {r : List Nat} (h : Rd (x :: r)) : Rd r := by
  cases r with
  | nil => trivial
  | cons y r => exact h.2
theorem Rd.drop {a b : List Nat} (h : Rd (a ++ b)) : Rd b := by
  induction a with
  | nil => exact h
  | cons x r ih => exact ih h.tail
theorem Rd.push {st : List Nat} (h : Rd st) (c : Nat) : Rd (push st c) := by
  cases st with
  | nil => trivial
  | cons x r =>
    rw [push_cons]
    split
    · exact h.tail
    · rename_i n
      exact ⟨fun e => n (sw_eq e), h⟩
theorem Rd.run {st : List Nat} (h : Rd st) (l : List Nat) : Rd (runP st l) := by
  induction l generalizing st with
  | nil => exact h
  | cons c r ih => exact ih (h.push c)
theorem push_back {st : List Nat} (h : Rd st) (c : Nat) : push (push st c) (sw c) = st := by
  cases st with
  | nil => simp [push, sw_sw]
  | cons x r =>
    by_cases e : x = sw c
    · rw [push, if_pos e]
      cases r with
      | nil => rw [push, e]
      | cons y r =>
        rw [push, if_neg, e]
        intro q
        rw [sw_sw] at q
        exact h.1 (by rw [e, q])
    · rw [push, if_neg e, push, if_pos (by rw [sw_sw])]
theorem run_pair {st : List Nat} (h : Rd st) (c : Nat) (l : List Nat) : runP st (c :: sw c :: l) = runP st l := by
  show runP (push (push st c) (sw c)) l = _
  rw [push_back h]
theorem runP_app (st l m : List Nat) : runP st (l ++ m) = runP (runP st l) m := List.foldl_append
theorem red_pair (a b : List Nat) (c : Nat) : red (a ++ c :: sw c :: b) = red (a ++ b) := by
  unfold red
  rw [runP_app, run_pair (Rd.run (st := []) trivial a), ← runP_app]
/-- the letters of what is left are the path's -/
theorem runP_mem {st l : List Nat} {c : Nat} (h : c ∈ runP st l) : c ∈ st ∨ c ∈ l := by
  induction l generalizing st with
  | nil => exact .inl h
  | cons d r ih =>
    rcases ih (st := push st d) h with q | q
    · cases st with
      | nil => rw [push, List.mem_singleton] at q; exact .inr (by rw [q]; exact List.mem_cons_self)
      | cons x t =>
        rw [push_cons] at q
        split at q
        · exact .inl (List.mem_cons_of_mem _ q)
        · rcases List.mem_cons.mp q with q | q
          · exact .inr (by rw [q]; exact List.mem_cons_self)
          · exact .inl q
    · exact .inr (List.mem_cons_of_mem _ q)
theorem IsP.run {l : List Nat} (h : IsP l) : IsP (runP [] l) := fun c hc => by
  rcases runP_mem hc with q | q
  · cases q
  · exact h c q
theorem IsP.red {l : List Nat} (h : IsP l) : IsP (red l) := fun c hc => h.run c (List.mem_reverse.mp hc)
theorem push_len (st : List Nat) (c : Nat) : (push st c).length ≤ st.length + 1 := by
  cases st with
  | nil => simp [push]
  | cons x r => rw [push_cons]; split <;> simp <;> omega
theorem runP_len (st l : List Nat) : (runP st l).length ≤ st.length + l.length := by
  induction l generalizing st with
  | nil => exact Nat.le_refl _
  | cons c r ih =>
    have h1 := ih (st := push st c)
    have h2 := push_len st c
    show (runP (push st c) r).length ≤ _
    rw [List.length_cons]; omega
theorem red_len (l : List Nat) : (red l).length ≤ l.length := by
  have := runP_len [] l
  unfold red
  rw [List.length_reverse]
  simpa using this
/-- reduced lists, the other way round -/
theorem Rd.snoc {l : List Nat} {x y : Nat} (h : Rd (l ++ [x])) (n : x ≠ sw y) : Rd (l ++ [x, y]) := by
  induction l with
  | nil => exact ⟨n, trivial⟩
  | cons a r ih =>
    cases r with
    | nil => exact ⟨h.1, n, trivial⟩
    | cons b r => exact ⟨h.1, ih h.2⟩
theorem Rd.rev {l : List Nat} (h : Rd l) : Rd l.reverse := by
  induction l with
  | nil => trivial
  | cons a r ih =>
    cases r with
    | nil => trivial
    | cons b r =>
      have h1 := ih h.2
      rw [List.reverse_cons] at h1 ⊢
      rw [List.reverse_cons, List.append_assoc]
      exact Rd.snoc h1 fun e => h.1 (sw_eq e)
theorem Rd_red (l : List Nat) : Rd (red l) := (Rd.run (st := []) trivial l).rev
theorem run_rd : ∀ (l st : List Nat), Rd (l.reverse ++ st) → runP st l = l.reverse ++ st
  | [], _, _ => rfl
  | c :: r, st, h => by
    rw [List.reverse_cons, List.append_assoc] at h
    have hc : Rd (c :: st) := Rd.drop (a := r.reverse) (b := c :: st) h
    have e : push st c = c :: st := by
      cases st with
      | nil => rfl
      | cons x t => rw [push, if_neg fun q => hc.1 (sw_eq q)]
    show runP (push st c) r = _
    rw [e, run_rd r (c :: st) h, List.reverse_cons, List.append_assoc]; rfl
theorem red_rd {l : List Nat} (h : Rd l) : red l = l := by
  unfold red
  rw [run_rd l [] (by rw [List.append_nil]; exact h.rev), List.append_nil, List.reverse_reverse]
theorem red_red (l : List Nat) : red (red l) = red l := red_rd (Rd_red l)
/-- free equality -/
inductive Fr : List Nat → List Nat → Prop
  | refl (l) : Fr l l
  | pair (a : List Nat) (c : Nat) (b : List Nat) : Fr (a ++ c :: sw c :: b) (a ++ b)
  | symm {l m} : Fr l m → Fr m l
  | trans {l m n} : Fr l m → Fr m n → Fr l n
theorem Fr.red {l m : List Nat} (h : Fr l m) : red l = red m := by
  induction h with
  | refl => rfl
  | pair a c b => exact red_pair a b c
  | symm _ ih => exact ih.symm
  | trans _ _ h1 h2 => exact h1.trans h2
theorem Fr.run : ∀ (l st : List Nat), Fr (st.reverse ++ l) (runP st l).reverse
  | [], st => by rw [List.append_nil]; exact .refl _
  | c :: r, st => by
    refine .trans ?_ (Fr.run r (push st c))
    cases st with
    | nil => exact .refl _
    | cons x t =>
      rw [push_cons]
      split
      · rename_i e
        have h := Fr.pair t.reverse x r
        rw [show sw x = c by rw [e, sw_sw]] at h
        rw [List.reverse_cons, List.append_assoc]
        exact h
      · simp only [List.reverse_cons, List.append_assoc]
        exact .refl _
theorem Fr.self (l : List Nat) : Fr l (Pf.red l) := Fr.run l []
theorem Fr.of_red {l m : List Nat} (h : Pf.red l = Pf.red m) : Fr l m := (Fr.self l).trans (h ▸ (Fr.self m).symm)
theorem Fr.left (k : List Nat) {l m : List Nat} (h : Fr l m) : Fr (k ++ l) (k ++ m) := by
  induction h with
  | refl => exact .refl _
  | pair a c b => rw [← List.append_assoc, ← List.append_assoc]; exact .pair _ _ _
  | symm _ ih => exact ih.symm
  | trans _ _ h1 h2 => exact h1.trans h2
theorem Fr.right (k : List Nat) {l m : List Nat} (h : Fr l m) : Fr (l ++ k) (m ++ k) := by
  induction h with
  | refl => exact .refl _
  | pair a c b => rw [List.append_assoc, List.append_assoc]; exact .pair _ _ _
  | symm _ ih => exact ih.symm
  | trans _ _ h1 h2 => exact h1.trans h2
theorem Fr.app {l m l' m' : List Nat} (h : Fr l m) (h' : Fr l' m') : Fr (l ++ l') (m ++ m') := (h.right _).trans (h'.left _)
/-- the inverse -/
def inv (l : List Nat) : List Nat := l.reverse.map sw
theorem inv_app (l m : List Nat) : inv (l ++ m) = inv m ++ inv l := by unfold inv; rw [List.reverse_append, List.map_append]
theorem inv_inv (l : List Nat) : inv (inv l) = l := by
  unfold inv
  rw [← List.map_reverse, List.reverse_reverse, List.map_map]
  rw [show sw ∘ sw = id from funext sw_sw, List.map_id]
theorem IsP.inv {l : List Nat} (h : IsP l) : IsP (inv l) := fun c hc => by
  obtain ⟨d, hd, rfl⟩ := List.mem_map.mp hc
  exact sw_step d (h d (List.mem_reverse.mp hd))
theorem inv_len (l : List Nat) : (inv l).length = l.length := by simp [inv]
theorem Fr.inv {l m : List Nat} (h : Fr l m) : Fr (inv l) (inv m) := by
  induction h with
  | refl => exact .refl _
  | pair a c b =>
    rw [inv_app, inv_app]
    have : Pf.inv (c :: sw c :: b) = Pf.inv b ++ c :: [sw c] := by
      unfold Pf.inv
      simp [sw_sw]
    rw [this, List.append_assoc]
    exact .pair _ _ _
  | symm _ ih => exact ih.symm
  | trans _ _ h1 h2 => exact h1.trans h2
theorem Rd.map_sw {l : List Nat} (h : Rd l) : Rd (l.map sw) := by
  induction l with
  | nil => trivial
  | cons a r ih =>
    cases r with
    | nil => trivial
    | cons b r => exact ⟨fun e => h.1 (sw_inj e), ih h.2⟩
theorem Rd.inv {l : List Nat} (h : Rd l) : Rd (inv l) := h.rev.map_sw
theorem red_inv (l : List Nat) : red (inv l) = inv (red l) := by
  rw [(Fr.self l).inv.red, red_rd (Rd_red l).inv]
theorem Fr.cancel (l : List Nat) : Fr (l ++ Pf.inv l) [] := by
  induction l with
  | nil => exact .refl _
  | cons c r ih =>
    have : Pf.inv (c :: r) = Pf.inv r ++ [sw c] := by simp [Pf.inv]
    rw [this]
    have h := (ih.right [sw c]).left [c]
    rw [List.append_assoc] at h
    exact h.trans (.pair [] c [])
theorem rd_iff (l : List Nat) : Rd l ↔ red l = l := ⟨red_rd, fun h => h ▸ Rd_red l⟩
/-- no pair stands anywhere -/
theorem rd_of_at : ∀ {l : List Nat}, (∀ (i : Nat) (x y : Nat), l[i]? = some x → l[i + 1]? = some y → x ≠ sw y) → Rd l
  | [], _ => trivial
  | [_], _ => trivial
  | x :: y :: r, h => ⟨h 0 x y rfl rfl, rd_of_at fun i a b ha hb => h (i + 1) a b ha hb⟩
theorem rd_at : ∀ {l : List Nat} {i x y : Nat}, Rd l → l[i]? = some x → l[i + 1]? = some y → x ≠ sw y
  | [], _, _, _, _, h, _ => by simp at h
  | [_], 0, _, _, _, _, h => by simp at h
  | [_], i + 1, _, _, _, h, _ => by simp at h
  | a :: b :: r, 0, x, y, h, h1, h2 => by
    have e1 : a = x := Option.some.inj h1
    have e2 : b = y := Option.some.inj h2
    rw [← e1, ← e2]; exact h.1
  | a :: b :: r, i + 1, x, y, h, h1, h2 => rd_at (i := i) h.2 h1 h2
theorem swap_S {l : List Nat} (h : IsP l) : Txt.swapcase (S l) = S (l.map sw) := by
  unfold Txt.swapcase
  have : placed (S l) (fun i c => if Unicode.isUpper c then Unicode.lowerAt (S l).cps i else if Unicode.isLower c then Unicode.upperOf c else [c]) = (S l).cps.map sw := by
    refine placed_single _ _ sw fun i c hc => ?_
    have hc' : c ∈ stepC := h c (by rw [← S_cps l]; exact List.mem_of_getElem? hc)
    have h1 : ∀ c ∈ stepC, (if Unicode.isUpper c = true then Unicode.lowerOf c else if Unicode.isLower c = true then Unicode.upperOf c else [c]) = [sw c] := by decide +kernel
    have h2 : Unicode.lowerAt (S l).cps i = Unicode.lowerOf c := by
      have hz : (S l).cps[i]? = some c := by rw [← Array.getElem?_toList]; exact hc
      unfold Unicode.lowerAt
      rw [hz]
      have hne : (c == 0x3A3) = false := by
        rw [beq_eq_false_iff_ne]; have := sw_lt c hc'; omega
      simp only [hne, Bool.false_and, Bool.false_eq_true, if_false]
    rw [h2]
    exact h1 c hc'
  rw [this]
  unfold S
  simp
/-- Lean data as the model's data: what == says of it -/
structure Emb {α : Type} [DecidableEq α] (f : α → PyData) (P : α → Prop) (n : Nat) : Prop where
  lay : ∀ a, P a → (f a).canLay0 = true
  dep : ∀ a, (f a).depth ≤ n
  eqv : ∀ a b, PyData.eqv (f a) (f b) = decide (a = b)
section
variable {α β γ : Type} [DecidableEq α] [DecidableEq β] [DecidableEq γ] {f : α → PyData} {g : β → PyData} {k : γ → PyData} {n m : Nat} {P : α → Prop} {R : β → Prop}
theorem Emb.shaped (e : Emb f P n) (a : α) (ha : P a) (h : n ≤ 64 := by decide) : SeqAt.shaped (f a) = true := by
  unfold SeqAt.shaped
  rw [e.lay a ha, Bool.true_and]
  exact decide_eq_true (Nat.le_trans (e.dep a) h)
theorem Emb.int : Emb PyData.int (fun _ => True) 0 := ⟨fun _ _ => rfl, fun _ => Nat.le_refl _, fun a b => by rw [PyData.eqv]; exact Bool.beq_eq_decide_eq a b⟩
theorem Emb.str : Emb PyData.str (fun z => (z.cps.all fun c => decide (c < 0x110000)) = true) 0 := ⟨fun _ h => by rw [PyData.canLay0]; exact h, fun _ => Nat.le_refl _, fun a b => by rw [PyData.eqv]; exact Bool.beq_eq_decide_eq a b⟩
theorem Emb.bool : Emb PyData.bool (fun _ => True) 0 := ⟨fun _ _ => rfl, fun _ => Nat.le_refl _, fun a b => by rw [PyData.eqv]; exact Bool.beq_eq_decide_eq a b⟩
theorem Emb.comp (e : Emb f P n) (h : β → α) (inj : ∀ a b, h a = h b → a = b) : Emb (fun b => f (h b)) (fun b => P (h b)) n :=
  ⟨fun _ q => e.lay _ q, fun _ => e.dep _, fun a b => by rw [e.eqv]; exact decide_eq_decide.mpr ⟨inj a b, fun q => by rw [q]⟩⟩
theorem Emb.all (e : Emb f P n) : ∀ l m : List α, PyData.eqvAll (l.map f) (m.map f) = decide (l = m)
  | [], [] => rfl
  | [], _ :: _ => by simp [PyData.eqvAll]
  | _ :: _, [] => by simp [PyData.eqvAll]
  | x :: l, y :: m => by
    rw [List.map_cons, List.map_cons, PyData.eqvAll, e.eqv, e.all l m]
    by_cases h : x = y
    · by_cases h2 : l = m <;> simp [h, h2]
    · simp [h]
theorem Emb.lays (e : Emb f P n) : ∀ l : List α, (∀ a ∈ l, P a) → PyData.canLayAll0 (l.map f) = true
  | [], _ => rfl
  | x :: l, h => by rw [List.map_cons, PyData.canLayAll0, e.lay _ (h _ List.mem_cons_self), e.lays l fun a ha => h a (List.mem_cons_of_mem _ ha)]; rfl
theorem Emb.deps (e : Emb f P n) : ∀ l : List α, PyData.depthAll (l.map f) ≤ n
  | [] => Nat.zero_le _
  | x :: l => by rw [List.map_cons, PyData.depthAll]; exact Nat.max_le.mpr ⟨e.dep x, e.deps l⟩
theorem Emb.list (e : Emb f P n) : Emb (fun l : List α => PyData.list (l.map f)) (fun l => ∀ a ∈ l, P a) (n + 1) :=
  ⟨fun l h => by rw [PyData.canLay0]; exact e.lays l h, fun l => by rw [PyData.depth]; have := e.deps l; omega, fun a b => by rw [PyData.eqv, e.all]⟩
theorem Emb.tupl (e : Emb f P n) : Emb (fun l : List α => PyData.tuple (l.map f)) (fun l => ∀ a ∈ l, P a) (n + 1) :=
  ⟨fun l h => by rw [PyData.canLay0]; exact e.lays l h, fun l => by rw [PyData.depth]; have := e.deps l; omega, fun a b => by rw [PyData.eqv, e.all]⟩
end
theorem dp_map {K : PySem.W.Frag} {H : Hp} {α : Type} {f : α → PyData} {v : α → V} (h : ∀ a, Dp K H (v a) (f a)) : ∀ l : List α, DpAll K H (l.map v) (l.map f)
  | [] => .nil
  | _ :: r => .cons (h _) (dp_map h r)
theorem eqv_nil {α : Type} [DecidableEq α] {f : α → PyData} {P : α → Prop} {n : Nat} (e : Emb f P n) (l : List α) : PyData.eqv (.list (l.map f)) (.list []) = decide (l = []) := e.list.eqv l []
section
variable {P : Program} {w : World} {K : PySem.W.Frag} {mg : Str → Option Value} {base : Heap} {A : Ad}
theorem sc_reduce_all : FnScope ["parts", "kept", "part", "step"] ["parts"] (defScope s_reduce_all) := ⟨rfl, rfl, rfl, by decide +kernel, rfl, by decide +kernel, by decide +kernel⟩
def nm_reduce_all : List Str := ["parts", "kept", "part", "step"]
def sp_reduce_all (K : PySem.W.Frag) : Sp := fun vs H Q _ => ∃ (a : Addr) (ls : List (List Nat)), vs = [.ref a] ∧ Sq K H a (ls.map fun l => V.str (S l)) ∧ (∀ l ∈ ls, IsP l) ∧ ls.flatten.length ≤ 1000000 ∧
  ∀ H', Same H H' → Q (.str (S (red ls.flatten))) H'
/-- the list that holds a stack of letters -/
def stk (st : List Nat) : List V := (st.reverse.map sg).map V.str
theorem stk_cons (x : Nat) (r : List Nat) : stk (x :: r) = stk r ++ [V.str (S [x])] := by simp [stk, sg]
theorem stk_len (st : List Nat) : (stk st).length = st.length := by simp [stk]
theorem stk_data {K : PySem.W.Frag} {H : Hp} {p : Addr} {st : List Nat} (h : H p = some (.lst (stk st))) : Dp K H (.ref p) (.list ((st.reverse.map sg).map .str)) := .lst (sq_of h) (by
  unfold stk
  exact dp_map (fun z => .str z) _)
theorem ok_reduce_all (T : Txt K mg A) : FnOk P w K mg base CX0 1 A.a_reduce_all A.d_reduce_all ["parts"] (sp_reduce_all K) := by
  refine T.f_reduce_all.ok sc_reduce_all (fun vs H Q E h => ?_) (fun cdv A_ outer s H vs Q E hr h => ?_)
  · first | (obtain ⟨_, rfl, _⟩ := h; rfl) | (obtain ⟨_, _, rfl, _⟩ := h; rfl) | (obtain ⟨_, _, _, rfl, _⟩ := h; rfl) | (obtain ⟨_, _, _, _, rfl, _⟩ := h; rfl) | (obtain ⟨_, _, _, _, _, rfl, _⟩ := h; rfl) | (obtain ⟨_, _, _, _, _, _, rfl, _⟩ := h; rfl) | (obtain ⟨rfl, _⟩ := h; rfl)
  · obtain ⟨a, ls, rfl, hS, hP, hz, q⟩ := h
    refine ⟨_, (pss_cons (ps_set (i := 1) sc_reduce_all.nd rfl (by first | exact Or.inl rfl | exact Or.inr rfl) (pe_lst pa_nil))
      (pss_cons (ps_for PassesOwn.never rfl (pi_anyK (K := K) rfl (pv 0)) (pg_name (i := 2) sc_reduce_all.nd rfl (by first | exact Or.inl rfl | exact Or.inr rfl)) (pss_one (ps_for PassesOwn.never rfl (pi_str (pv 2)) (pg_name (i := 3) sc_reduce_all.nd rfl (by first | exact Or.inl rfl | exact Or.inr rfl)) (pss_one (ps_if (PW.pt (pw_and (pt_cmpR (op_neUK (K := K) rfl hr.units) (pv 1) (pe_lst pa_nil) rfl) (pw_and1 (pt_cmpR (op_eqUK (K := K) rfl hr.units) (pe_ix (ix_seqK (K := K) rfl) (pv 1) (pe_un un_neg pe_int) (fun _ _ => rfl)) (pe_m0 PySem.F.slot_str_swapcase PySem.F.type_str_swapcase mt_swapcase (pv 3)) rfl)))) (pss_one (ps_expr (pe_bm0K (K := K) rfl (pe_bm0 PySem.F.plainAttrs_list PySem.F.slot_list_pop PySem.F.type_list_pop mt_pop (pv 1))))) (pss_one (ps_expr (pe_bmK (K := K) rfl (pe_bm PySem.F.plainAttrs_list PySem.F.slot_list_append PySem.F.type_list_append mt_append (pv 1) (pa_cons (pv 3) pa_nil))))))))))
      (pss_one (ps_ret (pe_m1 PySem.F.slot_str_join PySem.F.type_str_join (mt_joinK (K := K) rfl) pe_str (pv 1)))))), ?_⟩
    dsimp only [L2.cxOf, L2.Cx.nox, L2.Cx.wish, L2.start, List.map, List.length_cons, List.length_nil, Nat.reduceAdd, Nat.reduceSub, List.replicate, List.cons_append, List.nil_append, nm_reduce_all]
    walk_at "hx go"
    refine g_sz (by simp) fun p np => ?_
    walk_at "hx go"
    have flat_take : ∀ i, ((ls.take i).flatten).length ≤ ls.flatten.length := fun i => by
      conv => rhs; rw [← List.take_append_drop i ls, List.flatten_append, List.length_append]
      omega
    have e0 : Same H (upd H p (.lst [])) := s_new (Same.refl H) np
    have oks : ∀ st : List Nat, (∀ c ∈ st, c ∈ stepC) → SeqAt.shaped (.list ((st.reverse.map sg).map .str)) = true := fun st h =>
      Emb.str.list.shaped _ fun z hz => by
        obtain ⟨c, hc, rfl⟩ := List.mem_map.mp hz
        exact step_ok (.one (h c (List.mem_reverse.mp hc)))
    refine g_anySq (fun Q q => g_var rfl q) hS e0 fun J G w hG => ?_
    refine for_it w (fun i σ H2 => (∃ v2 v3, σ = [some (.ref a), some (.ref p), v2, v3]) ∧ Same H H2 ∧ H2 p = some (.lst (stk (runP [] (ls.take i).flatten)))) ⟨⟨_, _, rfl⟩, e0, upd_same⟩ (fun _ _ _ _ h => hG _ h.2.1) ?_ ?_
    · rintro i x σ H2 H3 hi ⟨⟨v2, v3, rfl⟩, e2, hp2⟩ ⟨rfl, ex⟩
      rw [List.getElem?_map] at ex
      cases el : ls[i]? with
      | none => rw [el] at ex; cases ex
      | some l =>
        rw [el] at ex
        cases ex
        have hl : IsP l := hP l (List.mem_of_getElem? el)
        have et : (ls.take (i + 1)).flatten = (ls.take i).flatten ++ l := by rw [List.take_succ, el]; simp
        have ez : ((ls.take i).flatten ++ l).length ≤ ls.flatten.length := by rw [← et]; exact flat_take _
        have hT : IsP (ls.take i).flatten := fun c hc => by
          obtain ⟨m, hm, hc⟩ := List.mem_flatten.mp hc
          exact hP m (List.mem_of_mem_take hm) c hc
        rw [et]
        generalize (ls.take i).flatten = m at *
        rw [List.length_append] at ez
        walk_at "hx go"
        refine for_it walk_str (fun j σ H4 => (∃ v3, σ = [some (.ref a), some (.ref p), some (.str (S l)), v3]) ∧ Same H H4 ∧ H4 p = some (.lst (stk (runP [] (m ++ l.take j))))) ⟨⟨_, rfl⟩, e2, by rw [List.take_zero, List.append_nil]; exact hp2⟩ (fun _ _ _ _ _ => trivial) ?_ ?_
        · rintro j x σ H4 H5 hj ⟨⟨v3, rfl⟩, e4, hp4⟩ ⟨rfl, c, ec, rfl⟩
          have ec2 : l[j]? = some c := by rw [← S_cps l, Array.getElem?_toList]; exact ec
          have hc : c ∈ stepC := hl c (List.mem_of_getElem? ec2)
          have et2 : m ++ l.take (j + 1) = (m ++ l.take j) ++ [c] := by rw [List.take_succ, ec2]; simp
          have hst : IsP (runP [] (m ++ l.take j)) := IsP.run fun d hd => (List.mem_append.mp hd).elim (hT d) fun h => hl d (List.mem_of_mem_take h)
          have hlen : (runP [] (m ++ l.take j)).length ≤ 1000000 := by
            have h1 := runP_len [] (m ++ l.take j)
            rw [List.length_append, List.length_take, List.length_nil] at h1
            omega
          rw [et2, runP_app]
          generalize runP [] (m ++ l.take j) = st at *
          have sC : Txt.swapcase ⟨#[c]⟩ = S [sw c] := swap_S (IsP.one hc)
          walk_at "hx go"
          refine g_sz (by simp) fun p1 np1 => ?_
          walk_at "hx go"
          have hp5 := u_old (u := .lst []) np1 hp4
          have e5 : Same H (upd H5 p1 (.lst [])) := s_new e4 np1
          refine g_neD (stk_data hp5) (.lst (sq_of upd_same) .nil) (oks st hst) (oks [] (fun _ h => by cases h)) ?_
          rw [eqv_nil Emb.str]
          walk_at "hx go"
          generalize upd H5 p1 (.lst []) = H6 at *
          cases st with
          | nil =>
            refine g_byN (fun h => absurd rfl h) fun _ => ?_
            walk_at "hx go"
            refine ⟨Or.inl ⟨rfl, _, sq_of hp5⟩, ?_⟩
            walk_at "hx go"
            refine g_append hp5 (by rw [stk_len]; simp) ?_
            exact ⟨⟨_, rfl⟩, s_mut e5 np, by rw [upd_same]; rfl⟩
          | cons x r =>
            refine g_byN (fun _ => ?_) fun h => by simp at h
            walk_at "hx go"
            refine g_ixL (sq_of hp5) (by rw [stk_cons]; exact atI_last _ _) ?_
            walk_at "hx go"
            refine ⟨rfl, by show 1 ≤ 5592405; decide, ?_⟩
            rw [sC]
            walk_at "hx go"
            by_cases exc : x = sw c
            · refine g_yesD (by rw [exc]) ?_
              walk_at "hx go"
              refine ⟨Or.inl ⟨rfl, _, sq_of hp5⟩, ?_⟩
              rw [stk_cons] at hp5
              refine g_pop hp5 ?_
              refine ⟨⟨_, rfl⟩, s_mut e5 np, ?_⟩
              rw [upd_same]
              show _ = some (HO.lst (stk (push (x :: r) c)))
              rw [push_cons, if_pos exc]
            · refine g_noD (fun h => exc (by have := S_inj h; simpa using this)) ?_
              walk_at "hx go"
              refine ⟨Or.inl ⟨rfl, _, sq_of hp5⟩, ?_⟩
              walk_at "hx go"
              refine g_append hp5 (by rw [stk_len]; omega) ?_
              refine ⟨⟨_, rfl⟩, s_mut e5 np, ?_⟩
              rw [upd_same]
              show _ = some (HO.lst (stk (push (x :: r) c)))
              rw [push_cons, if_neg exc, stk_cons c]
              rfl
        · rintro σ H4 ⟨⟨v3, rfl⟩, e4, hp4⟩
          rw [List.take_of_length_le (by show l.length ≤ (S l).length; rw [S_len]; exact Nat.le_refl _)] at hp4
          exact ⟨⟨_, _, rfl⟩, e4, hp4⟩
    · rintro σ H2 ⟨⟨v2, v3, rfl⟩, e2, hp2⟩
      rw [List.length_map, List.take_of_length_le (Nat.le_refl _)] at hp2
      walk_at "hx go"
      refine g_joinK (l := ((runP [] ls.flatten).reverse.map sg)) (sq_of hp2) ?_ ?_
      · have h1 : (((runP [] ls.flatten).reverse.map sg).map (·.length)).sum = (runP [] ls.flatten).reverse.length := by
          generalize (runP [] ls.flatten).reverse = l
          induction l with
          | nil => rfl
          | cons c r ih => rw [List.map_cons, List.map_cons, List.sum_cons, ih]; simp [sg, S_len]; omega
        have h2 := runP_len [] ls.flatten
        rw [h1, show (Str.ofString "").length = 0 from by decide +kernel, List.length_reverse]
        simp only [List.length_map, List.length_reverse, List.length_nil] at h2 ⊢
        omega
      · rw [join_sg]
        exact q H2 e2

theorem sc_is_path : FnScope ["value", "step"] ["value"] (defScope s_is_path) := ⟨rfl, rfl, rfl, by decide +kernel, rfl, by decide +kernel, by decide +kernel⟩
def nm_is_path : List Str := ["value", "step"]
/-- what is_path tells of a text -/
def isP (z : Str) : Bool := decide ((z.length : Int) ≤ 400) && z.cps.toList.all fun c => decide (c ∈ stepC)
theorem isP_S {l : List Nat} (h : IsP l) (hl : l.length ≤ 400) : isP (S l) = true := by
  unfold isP
  rw [S_cps, S_len, decide_eq_true (by omega), Bool.true_and, List.all_eq_true]
  exact fun c hc => decide_eq_true (h c hc)
def sp_is_path (K : PySem.W.Frag) : Sp := fun vs H Q _ => ∃ (x : V), vs = [x] ∧
  ((∃ z, x = .str z ∧ z.length ≤ 100000 ∧ ∀ H', Same H H' → Q (.bl (isP z)) H') ∨ (∃ t, TyX K H x t ∧ PySem.W.kitOne K t (.type "str") = some false ∧ Q (.bl false) H))
theorem ok_is_path (T : Txt K mg A) : FnOk P w K mg base CX0 1 A.a_is_path A.d_is_path ["value"] (sp_is_path K) := by
  refine T.f_is_path.ok sc_is_path (fun vs H Q E h => ?_) (fun cdv A_ outer s H vs Q E hr h => ?_)
  · first | (obtain ⟨_, rfl, _⟩ := h; rfl) | (obtain ⟨_, _, rfl, _⟩ := h; rfl) | (obtain ⟨_, _, _, rfl, _⟩ := h; rfl) | (obtain ⟨_, _, _, _, rfl, _⟩ := h; rfl) | (obtain ⟨_, _, _, _, _, rfl, _⟩ := h; rfl) | (obtain ⟨_, _, _, _, _, _, rfl, _⟩ := h; rfl) | (obtain ⟨rfl, _⟩ := h; rfl)
  · obtain ⟨x, rfl, h⟩ := h
    refine ⟨_, (pss_one (ps_ret (pe_and (pe_callB (call_isiUK (K := K) rfl) (by rfl) T.z_isinstance PyProof.Rows.boot_isinstance (pa_cons (pv 0) (pa_cons (pe_bltn (v := .ty "str") (by rfl) T.z_str (by decide +kernel) rfl) pa_nil))) (pe_and (pe_cmpR op_le (pe_callB (call_lenUK (K := K) rfl) (by rfl) T.z_len PySem.boot_len (pa_cons (pv 0) pa_nil)) (pe_gI T.c_MAX_STEPS) rfl) (pe_one (pe_callB (call_allK (K := K) rfl rfl) (by rfl) T.z_all PyProof.Rows.boot_all (pa_cons (pe_lc (own := [("step", 1)]) (g := (gName 1)) (tt := tYes) rfl sc_is_path.nd (pi_str (pv 0)) (blkOk_by (N := nm_is_path) (sc := defScope s_is_path) (by decide +kernel)) (fun _ _ _ _ _ => (pg_name (i := 1) sc_is_path.nd rfl (by first | exact Or.inl rfl | exact Or.inr rfl))) (fun _ _ _ _ _ => pts_nil) (fun _ _ _ _ _ => (pe_cmpR op_in_sign (pv 1) (pe_gS T.c_STEPS) rfl))) pa_nil))))))), ?_⟩
    dsimp only [L2.cxOf, L2.Cx.nox, L2.Cx.wish, L2.start, List.map, List.length_cons, List.length_nil, Nat.reduceAdd, Nat.reduceSub, List.replicate, List.cons_append, List.nil_append, nm_is_path]
    walk_at "hx go"
    rcases h with ⟨z, rfl, hz, q⟩ | ⟨t, ht, ek, q⟩
    · refine g_isi (.ty _) (.base (.str z)) (kit_ty (r := true) (by decide +kernel)) ?_
      walk_at "hx go"
      refine g_lenS (Nat.le_trans hz (by decide)) ?_
      walk_at "hx go"
      refine g_byD (fun h4 => ?_) (fun h4 => ?_)
      · walk_at "hx go"
        intro D nD
        refine lc_it walk_str (fun i H2 => Same H H2 ∧ H2 D = some (.lst (((z.cps.toList.take i).map fun c => decide (c ∈ stepC)).map V.bl))) ?_ ?_ ?_ ?_
        · exact ⟨s_new (Same.refl H) nD, by rw [upd_same]; rfl⟩
        · intro i H2 _ _; trivial
        · rintro i x H2 H3 hi ⟨e2, hD⟩ ⟨rfl, c, ec, rfl⟩
          walk_at "hx go"
          refine ⟨rfl, ?_⟩
          walk_at "hx go"
          refine ⟨c, _, rfl, rfl, ?_⟩
          refine ⟨_, hD, ?_, s_mut e2 nD, ?_⟩
          · rw [List.length_map, List.length_map, List.length_take, sizeLine_eq]
            have : z.cps.toList.length ≤ 100000 := by rw [Array.length_toList]; exact hz
            omega
          · rw [upd_same, List.take_succ, show z.cps.toList[i]? = some c by rw [Array.getElem?_toList]; exact ec, stepsS, S_cps]
            simp
        · rintro H2 ⟨e2, hD⟩
          rw [List.take_of_length_le (by rw [Array.length_toList]; exact Nat.le_refl _)] at hD
          walk_at "hx go"
          refine g_all (sq_of hD) ?_
          have q1 := q H2 e2
          unfold isP at q1
          rw [decide_eq_true h4, Bool.true_and] at q1
          rw [List.all_map]
          exact q1
      · walk_at "hx go"
        have q1 := q H (Same.refl H)
        unfold isP at q1
        rw [decide_eq_false h4, Bool.false_and] at q1
        exact q1
    · refine g_isi (.ty _) ht ek ?_
      walk_at "hx go"
      exact q

theorem sc_require_path : FnScope ["value"] ["value"] (defScope s_require_path) := ⟨rfl, rfl, rfl, by decide +kernel, rfl, by decide +kernel, by decide +kernel⟩
def nm_require_path : List Str := ["value"]
def sp_require_path (K : PySem.W.Frag) : Sp := fun vs H Q _ => ∃ (z : Str), vs = [.str z] ∧ z.length ≤ 100000 ∧ isP z = true ∧ ∀ H', Same H H' → Q .non H'
theorem ok_require_path (T : Txt K mg A) : FnOk P w K mg base CX0 2 A.a_require_path A.d_require_path ["value"] (sp_require_path K) := by
  refine T.f_require_path.ok sc_require_path (fun vs H Q E h => ?_) (fun cdv A_ outer s H vs Q E hr h => ?_)
  · first | (obtain ⟨_, rfl, _⟩ := h; rfl) | (obtain ⟨_, _, rfl, _⟩ := h; rfl) | (obtain ⟨_, _, _, rfl, _⟩ := h; rfl) | (obtain ⟨_, _, _, _, rfl, _⟩ := h; rfl) | (obtain ⟨_, _, _, _, _, rfl, _⟩ := h; rfl) | (obtain ⟨_, _, _, _, _, _, rfl, _⟩ := h; rfl) | (obtain ⟨rfl, _⟩ := h; rfl)
  · obtain ⟨z, rfl, hz, hp, q⟩ := h
    refine ⟨_, (pss_one (ps_if (pt_not (pt_val (pe_call (ok_is_path T) (hr.mono (by decide)) (by rfl) T.g_is_path T.f_is_path.kp T.b_is_path .nil pass0 (pa_cons (pv 0) pa_nil)))) (pss_one ps_never) pss_nil)), ?_⟩
    dsimp only [L2.cxOf, L2.Cx.nox, L2.Cx.wish, L2.start, List.map, List.length_cons, List.length_nil, Nat.reduceAdd, Nat.reduceSub, List.replicate, List.cons_append, List.nil_append, nm_require_path]
    walk_at "hx go"
    refine ⟨_, rfl, .inl ⟨z, rfl, hz, fun H1 e1 => ?_⟩⟩
    rw [hp]
    walk_at "hx go"
    exact q H1 e1

theorem sc_is_reduced : FnScope ["path"] ["path"] (defScope s_is_reduced) := ⟨rfl, rfl, rfl, by decide +kernel, rfl, by decide +kernel, by decide +kernel⟩
def nm_is_reduced : List Str := ["path"]
def sp_is_reduced (K : PySem.W.Frag) : Sp := fun vs H Q _ => ∃ (l : List Nat), vs = [.str (S l)] ∧ IsP l ∧ l.length ≤ 400 ∧ ∀ H', Same H H' → Q (.bl (decide (red l = l))) H'
theorem ok_is_reduced (T : Txt K mg A) : FnOk P w K mg base CX0 3 A.a_is_reduced A.d_is_reduced ["path"] (sp_is_reduced K) := by
  refine T.f_is_reduced.ok sc_is_reduced (fun vs H Q E h => ?_) (fun cdv A_ outer s H vs Q E hr h => ?_)
  · first | (obtain ⟨_, rfl, _⟩ := h; rfl) | (obtain ⟨_, _, rfl, _⟩ := h; rfl) | (obtain ⟨_, _, _, rfl, _⟩ := h; rfl) | (obtain ⟨_, _, _, _, rfl, _⟩ := h; rfl) | (obtain ⟨_, _, _, _, _, rfl, _⟩ := h; rfl) | (obtain ⟨_, _, _, _, _, _, rfl, _⟩ := h; rfl) | (obtain ⟨rfl, _⟩ := h; rfl)
  · obtain ⟨l, rfl, hl, hz, q⟩ := h
    refine ⟨_, (pss_cons (ps_expr (pe_call (ok_require_path T) (hr.mono (by decide)) (by rfl) T.g_require_path T.f_require_path.kp T.b_require_path .nil pass0 (pa_cons (pv 0) pa_nil)))
      (pss_one (ps_ret (pe_cmpR (op_eqUK (K := K) rfl hr.units) (pe_call (ok_reduce_all T) (hr.mono (by decide)) (by rfl) T.g_reduce_all T.f_reduce_all.kp T.b_reduce_all .nil pass0 (pa_cons (pe_lst (pa_cons (pv 0) pa_nil)) pa_nil)) (pv 0) rfl)))), ?_⟩
    dsimp only [L2.cxOf, L2.Cx.nox, L2.Cx.wish, L2.start, List.map, List.length_cons, List.length_nil, Nat.reduceAdd, Nat.reduceSub, List.replicate, List.cons_append, List.nil_append, nm_is_reduced]
    walk_at "hx go"
    refine ⟨S l, rfl, by rw [S_len]; omega, isP_S hl hz, fun H1 e1 => ?_⟩
    walk_at "hx go"
    refine g_sz (by simp) fun p np => ?_
    walk_at "hx go"
    refine ⟨p, [l], rfl, .inl (sq_of upd_same), fun m hm => by rw [List.mem_singleton] at hm; rw [hm]; exact hl, by simp; omega, fun H2 e2 => ?_⟩
    have : [l].flatten = l := by simp
    rw [this]
    walk_at "hx go"
    have e : decide (S (red l) = S l) = decide (red l = l) := decide_eq_decide.mpr ⟨S_inj, fun h => by rw [h]⟩
    rw [e]
    exact q H2 ((s_new e1 np).trans e2)

theorem sc_reduced : FnScope ["path"] ["path"] (defScope s_reduced) := ⟨rfl, rfl, rfl, by decide +kernel, rfl, by decide +kernel, by decide +kernel⟩
def nm_reduced : List Str := ["path"]
def sp_reduced (K : PySem.W.Frag) : Sp := fun vs H Q _ => ∃ (l : List Nat), vs = [.str (S l)] ∧ IsP l ∧ l.length ≤ 400 ∧ ∀ H', Same H H' → Q (.str (S (red l))) H'
theorem ok_reduced (T : Txt K mg A) : FnOk P w K mg base CX0 3 A.a_reduced A.d_reduced ["path"] (sp_reduced K) := by
  refine T.f_reduced.ok sc_reduced (fun vs H Q E h => ?_) (fun cdv A_ outer s H vs Q E hr h => ?_)
  · first | (obtain ⟨_, rfl, _⟩ := h; rfl) | (obtain ⟨_, _, rfl, _⟩ := h; rfl) | (obtain ⟨_, _, _, rfl, _⟩ := h; rfl) | (obtain ⟨_, _, _, _, rfl, _⟩ := h; rfl) | (obtain ⟨_, _, _, _, _, rfl, _⟩ := h; rfl) | (obtain ⟨_, _, _, _, _, _, rfl, _⟩ := h; rfl) | (obtain ⟨rfl, _⟩ := h; rfl)
  · obtain ⟨l, rfl, hl, hz, q⟩ := h
    refine ⟨_, (pss_cons (ps_expr (pe_call (ok_require_path T) (hr.mono (by decide)) (by rfl) T.g_require_path T.f_require_path.kp T.b_require_path .nil pass0 (pa_cons (pv 0) pa_nil)))
      (pss_one (ps_ret (pe_call (ok_reduce_all T) (hr.mono (by decide)) (by rfl) T.g_reduce_all T.f_reduce_all.kp T.b_reduce_all .nil pass0 (pa_cons (pe_lst (pa_cons (pv 0) pa_nil)) pa_nil))))), ?_⟩
    dsimp only [L2.cxOf, L2.Cx.nox, L2.Cx.wish, L2.start, List.map, List.length_cons, List.length_nil, Nat.reduceAdd, Nat.reduceSub, List.replicate, List.cons_append, List.nil_append, nm_reduced]
    walk_at "hx go"
    refine ⟨S l, rfl, by rw [S_len]; omega, isP_S hl hz, fun H1 e1 => ?_⟩
    walk_at "hx go"
    refine g_sz (by simp) fun p np => ?_
    walk_at "hx go"
    refine ⟨p, [l], rfl, .inl (sq_of upd_same), fun m hm => by rw [List.mem_singleton] at hm; rw [hm]; exact hl, by simp; omega, fun H2 e2 => ?_⟩
    have : [l].flatten = l := by simp
    rw [this]
    exact q H2 ((s_new e1 np).trans e2)

theorem sc_inverted : FnScope ["steps"] ["steps"] (defScope s_inverted) := ⟨rfl, rfl, rfl, by decide +kernel, rfl, by decide +kernel, by decide +kernel⟩
def nm_inverted : List Str := ["steps"]
def sp_inverted (K : PySem.W.Frag) : Sp := fun vs H Q _ => ∃ (l : List Nat), vs = [.str (S l)] ∧ IsP l ∧ l.length ≤ 1000000 ∧ Q (.str (S (inv l))) H
theorem ok_inverted (T : Txt K mg A) : FnOk P w K mg base CX0 1 A.a_inverted A.d_inverted ["steps"] (sp_inverted K) := by
  refine T.f_inverted.ok sc_inverted (fun vs H Q E h => ?_) (fun cdv A_ outer s H vs Q E hr h => ?_)
  · first | (obtain ⟨_, rfl, _⟩ := h; rfl) | (obtain ⟨_, _, rfl, _⟩ := h; rfl) | (obtain ⟨_, _, _, rfl, _⟩ := h; rfl) | (obtain ⟨_, _, _, _, rfl, _⟩ := h; rfl) | (obtain ⟨_, _, _, _, _, rfl, _⟩ := h; rfl) | (obtain ⟨_, _, _, _, _, _, rfl, _⟩ := h; rfl) | (obtain ⟨rfl, _⟩ := h; rfl)
  · obtain ⟨l, rfl, hl, hz, q⟩ := h
    refine ⟨_, (pss_one (ps_ret (pe_m0 PySem.F.slot_str_swapcase PySem.F.type_str_swapcase mt_swapcase (pe_revS (pv 0))))), ?_⟩
    dsimp only [L2.cxOf, L2.Cx.nox, L2.Cx.wish, L2.start, List.map, List.length_cons, List.length_nil, Nat.reduceAdd, Nat.reduceSub, List.replicate, List.cons_append, List.nil_append, nm_inverted]
    walk_at "hx go"
    refine ⟨by rw [S_len, sizeLine_eq]; omega, ?_⟩
    have e : (⟨(S l).cps.toList.reverse.toArray⟩ : Str) = S l.reverse := by rw [S_cps]; rfl
    rw [e]
    walk_at "hx go"
    refine ⟨rfl, by rw [S_len, List.length_reverse]; omega, ?_⟩
    rw [swap_S fun c hc => hl c (List.mem_reverse.mp hc)]
    exact q

theorem sc_inverse : FnScope ["path"] ["path"] (defScope s_inverse) := ⟨rfl, rfl, rfl, by decide +kernel, rfl, by decide +kernel, by decide +kernel⟩
def nm_inverse : List Str := ["path"]
def sp_inverse (K : PySem.W.Frag) : Sp := fun vs H Q _ => ∃ (l : List Nat), vs = [.str (S l)] ∧ IsP l ∧ l.length ≤ 400 ∧ ∀ H', Same H H' → Q (.str (S (inv l))) H'
theorem ok_inverse (T : Txt K mg A) : FnOk P w K mg base CX0 3 A.a_inverse A.d_inverse ["path"] (sp_inverse K) := by
  refine T.f_inverse.ok sc_inverse (fun vs H Q E h => ?_) (fun cdv A_ outer s H vs Q E hr h => ?_)
  · first | (obtain ⟨_, rfl, _⟩ := h; rfl) | (obtain ⟨_, _, rfl, _⟩ := h; rfl) | (obtain ⟨_, _, _, rfl, _⟩ := h; rfl) | (obtain ⟨_, _, _, _, rfl, _⟩ := h; rfl) | (obtain ⟨_, _, _, _, _, rfl, _⟩ := h; rfl) | (obtain ⟨_, _, _, _, _, _, rfl, _⟩ := h; rfl) | (obtain ⟨rfl, _⟩ := h; rfl)
  · obtain ⟨l, rfl, hl, hz, q⟩ := h
    refine ⟨_, (pss_cons (ps_expr (pe_call (ok_require_path T) (hr.mono (by decide)) (by rfl) T.g_require_path T.f_require_path.kp T.b_require_path .nil pass0 (pa_cons (pv 0) pa_nil)))
      (pss_one (ps_ret (pe_call (ok_inverted T) (hr.mono (by decide)) (by rfl) T.g_inverted T.f_inverted.kp T.b_inverted .nil pass0 (pa_cons (pv 0) pa_nil))))), ?_⟩
    dsimp only [L2.cxOf, L2.Cx.nox, L2.Cx.wish, L2.start, List.map, List.length_cons, List.length_nil, Nat.reduceAdd, Nat.reduceSub, List.replicate, List.cons_append, List.nil_append, nm_inverse]
    walk_at "hx go"
    refine ⟨S l, rfl, by rw [S_len]; omega, isP_S hl hz, fun H1 e1 => ?_⟩
    walk_at "hx go"
    exact ⟨l, rfl, hl, by omega, q H1 e1⟩

end
/-- the place of a step -/
def ixC (c : Nat) : Nat := stepC.idxOf c
theorem occ_step : ∀ c ∈ stepC, Builtin.Str.occurrences (Str.ofString "aAbBcCdD") (S [c]) 0 (Str.ofString "aAbBcCdD").length 1 = [ixC c] := by decide +kernel
theorem ixC_lt : ∀ c ∈ stepC, ixC c < 8 := by decide +kernel
/-- the order of lists of ints, the shorter first where one begins the other -/
def lexB : List Int → List Int → Bool
  | [], [] => false
  | [], _ :: _ => true
  | _ :: _, [] => false
  | x :: xs, y :: ys => if x = y then lexB xs ys else decide (x < y)
theorem toks_ints : ∀ (xs ys : List Int), PyProof.Rows.lexLt PyProof.Rows.itemOrd (PySem.W.keyToksAll (xs.map PyData.int)) (PySem.W.keyToksAll (ys.map PyData.int)) = lexB xs ys
  | [], [] => by decide +kernel
  | [], y :: ys => by
    rw [List.map_cons, PySem.W.toks_all_cons, List.map_nil, PySem.W.keyToksAll]
    rw [PyProof.Rows.lex_diff (O := PyProof.Rows.itemOrd) (by decide)]
    rfl
  | x :: xs, [] => by
    rw [List.map_cons, PySem.W.toks_all_cons, List.map_nil, PySem.W.keyToksAll]
    rw [PyProof.Rows.lex_diff (O := PyProof.Rows.itemOrd) (by decide)]
    rfl
  | x :: xs, y :: ys => by
    by_cases e : x = y
    · subst e
      rw [List.map_cons, List.map_cons, PySem.W.dataLt_all_yes (by rfl) (by simp [PyData.eqv]), toks_ints xs ys]
      simp [lexB]
    · rw [List.map_cons, List.map_cons, PySem.W.dataLt_all_no (by rfl) (by simp [PyData.eqv, e]), PySem.W.dataLt_int]
      simp [lexB, e]
theorem lt_pair (a b : Int) (xs ys : List PyData) (hxy : PySem.W.alikeAll xs ys = true) : PySem.W.dataLt (.tuple (.int a :: xs)) (.tuple (.int b :: ys)) = if a = b then PyProof.Rows.lexLt PyProof.Rows.itemOrd (PySem.W.keyToksAll xs) (PySem.W.keyToksAll ys) else decide (a < b) := by
  rw [PySem.W.dataLt_tuple]
  by_cases e : a = b
  · subst e; rw [if_pos rfl, PySem.W.dataLt_all_yes (by rfl) (by simp [PyData.eqv])]
  · rw [if_neg e, PySem.W.dataLt_all_no (by rfl) (by simp [PyData.eqv, e]), PySem.W.dataLt_int]
theorem toks_one (x y : PyData) (h : PySem.W.alike x y = true) (hr : PyData.eqv x y = true → PySem.W.dataLt x y = false) : PyProof.Rows.lexLt PyProof.Rows.itemOrd (PySem.W.keyToksAll [x]) (PySem.W.keyToksAll [y]) = PySem.W.dataLt x y := by
  cases e : PyData.eqv x y with
  | true => rw [PySem.W.dataLt_all_yes h e, hr e]; decide +kernel
  | false => rw [PySem.W.dataLt_all_no h e]
theorem lexB_irr : ∀ xs, lexB xs xs = false
  | [] => rfl
  | x :: xs => by simp [lexB, lexB_irr xs]
theorem eqv_ints : ∀ xs ys : List Int, PyData.eqvAll (xs.map .int) (ys.map .int) = true → xs = ys
  | [], [], _ => rfl
  | [], _ :: _, h => by simp [PyData.eqvAll] at h
  | _ :: _, [], h => by simp [PyData.eqvAll] at h
  | x :: xs, y :: ys, h => by
    rw [List.map_cons, List.map_cons, PySem.W.eqv_all_cons, Bool.and_eq_true] at h
    have h1 : x = y := by simpa [PyData.eqv] using h.1
    rw [h1, eqv_ints xs ys h.2]
theorem alike_ints : ∀ xs ys : List Int, PySem.W.alikeAll (xs.map .int) (ys.map .int) = true
  | [], _ => by simp [PySem.W.alikeAll]
  | _ :: _, [] => by simp [PySem.W.alikeAll]
  | x :: xs, y :: ys => by rw [List.map_cons, List.map_cons, PySem.W.alikeAll, alike_ints xs ys]; rfl
/-- the keys of two paths compared -/
theorem lt_keys (a b : Int) (xs ys : List Int) : PySem.W.dataLt (.tuple [.int a, .list (xs.map .int)]) (.tuple [.int b, .list (ys.map .int)]) = if a = b then lexB xs ys else decide (a < b) := by
  rw [lt_pair a b _ _ (by rw [PySem.W.alikeAll, PySem.W.alike, alike_ints]; simp [PySem.W.alikeAll])]
  by_cases e : a = b
  · rw [if_pos e, if_pos e, toks_one _ _ (by rw [PySem.W.alike]; exact alike_ints xs ys) fun h => ?_, PySem.W.dataLt_list, toks_ints]
    rw [PyData.eqv] at h
    rw [eqv_ints xs ys h, PySem.W.dataLt_list, toks_ints, lexB_irr]
  · rw [if_neg e, if_neg e]
theorem lt_ints2 (a b c d : Int) : PySem.W.dataLt (.tuple [.int a, .int b]) (.tuple [.int c, .int d]) = if a = c then decide (b < d) else decide (a < c) := by
  rw [lt_pair a c _ _ (by rfl)]
  by_cases e : a = c
  · rw [if_pos e, if_pos e, toks_one _ _ (by rfl) fun h => ?_, PySem.W.dataLt_int]
    have h1 : b = d := by simpa [PyData.eqv] using h
    rw [h1, PySem.W.dataLt_int]; simp
  · rw [if_neg e, if_neg e]
/-- the number of a path, base eight -/
def rk (a : Nat) : List Nat → Nat
  | [] => a
  | c :: r => rk (a * 8 + ixC c) r
theorem rk_lt : ∀ (l m : List Nat) (a b : Nat), IsP l → IsP m → l.length = m.length → a < b → rk a l < rk b m
  | [], [], _, _, _, _, _, h => h
  | c :: l, d :: m, a, b, hl, hm, e, h => by
    have h1 := ixC_lt c (hl c (by simp)); have h2 := ixC_lt d (hm d (by simp))
    exact rk_lt l m _ _ (fun x hx => hl x (by simp [hx])) (fun x hx => hm x (by simp [hx])) (by simpa using e) (by omega)
  | [], _ :: _, _, _, _, _, e, _ => by simp at e
  | _ :: _, [], _, _, _, _, e, _ => by simp at e
theorem lex_rk : ∀ (l m : List Nat) (a : Nat), IsP l → IsP m → l.length = m.length → lexB (l.map fun c => (ixC c : Int)) (m.map fun c => (ixC c : Int)) = decide (rk a l < rk a m)
  | [], [], _, _, _, _ => by simp [lexB, rk]
  | c :: l, d :: m, a, hl, hm, e => by
    have hl' : IsP l := fun x hx => hl x (by simp [hx]); have hm' : IsP m := fun x hx => hm x (by simp [hx])
    have e' : l.length = m.length := by simpa using e
    rw [List.map_cons, List.map_cons, lexB]
    by_cases q : ixC c = ixC d
    · rw [if_pos (by omega), lex_rk l m (a * 8 + ixC c) hl' hm' e']; simp [rk, q]
    · rw [if_neg (by omega)]
      by_cases q2 : ixC c < ixC d
      · have := rk_lt l m (a * 8 + ixC c) (a * 8 + ixC d) hl' hm' e' (by omega)
        rw [rk, rk]; exact decide_eq_decide.mpr (by omega)
      · have := rk_lt m l (a * 8 + ixC d) (a * 8 + ixC c) hm' hl' e'.symm (by omega)
        rw [rk, rk]; exact decide_eq_decide.mpr (by omega)
  | [], _ :: _, _, _, _, e => by simp at e
  | _ :: _, [], _, _, _, e => by simp at e
/-- a path comes ahead of another -/
def pre (l m : List Nat) : Bool := if (l.length : Int) = (m.length : Int) then lexB (l.map fun c => (ixC c : Int)) (m.map fun c => (ixC c : Int)) else decide ((l.length : Int) < (m.length : Int))
theorem pre_rk {l m : List Nat} (hl : IsP l) (hm : IsP m) : (if (l.length : Int) = (m.length : Int) then decide ((rk 0 l : Int) < (rk 0 m : Int)) else decide ((l.length : Int) < (m.length : Int))) = pre l m := by
  unfold pre
  by_cases e : (l.length : Int) = (m.length : Int)
  · rw [if_pos e, if_pos e, lex_rk l m 0 hl hm (by omega)]
    exact decide_eq_decide.mpr (by omega)
  · rw [if_neg e, if_neg e]
section
variable {P : Program} {w : World} {K : PySem.W.Frag} {mg : Str → Option Value} {base : Heap} {A : Ad}
theorem sc_law_inverse_step : FnScope ["_law_step"] ["_law_step"] (defScope s_law_inverse_step) := ⟨rfl, rfl, rfl, by decide +kernel, rfl, by decide +kernel, by decide +kernel⟩
def nm_law_inverse_step : List Str := ["_law_step"]
theorem inv_ix : ∀ c ∈ stepC, atI stepC (Builtin.bitXor (ixC c : Int) 1) = some (sw c) := by decide +kernel
def sp_law_inverse_step (K : PySem.W.Frag) : Sp := fun vs H Q _ => ∃ (c : Nat), vs = [.str (S [c])] ∧ c ∈ stepC ∧ Q (.str (S [sw c])) H
theorem ok_law_inverse_step (T : Txt K mg A) : FnOk P w K mg base CX0 1 A.a_law_inverse_step A.d_law_inverse_step ["_law_step"] (sp_law_inverse_step K) := by
  refine T.f_law_inverse_step.ok sc_law_inverse_step (fun vs H Q E h => ?_) (fun cdv A_ outer s H vs Q E hr h => ?_)
  · first | (obtain ⟨_, rfl, _⟩ := h; rfl) | (obtain ⟨_, _, rfl, _⟩ := h; rfl) | (obtain ⟨_, _, _, rfl, _⟩ := h; rfl) | (obtain ⟨_, _, _, _, rfl, _⟩ := h; rfl) | (obtain ⟨_, _, _, _, _, rfl, _⟩ := h; rfl) | (obtain ⟨_, _, _, _, _, _, rfl, _⟩ := h; rfl) | (obtain ⟨rfl, _⟩ := h; rfl)
  · obtain ⟨c, rfl, hc, q⟩ := h
    refine ⟨_, (pss_one (ps_ret (pe_ix (ix_seqK (K := K) rfl) pe_str (pe_op op_xor (pe_m1 PySem.F.slot_str_index PySem.F.type_str_index mt_sindex pe_str (pv 0)) pe_int) (fun _ _ => rfl)))), ?_⟩
    dsimp only [L2.cxOf, L2.Cx.nox, L2.Cx.wish, L2.start, List.map, List.length_cons, List.length_nil, Nat.reduceAdd, Nat.reduceSub, List.replicate, List.cons_append, List.nil_append, nm_law_inverse_step]
    walk_at "hx go"
    refine ⟨_, _, _, _, rfl, rfl, occ_step c hc, ?_⟩
    walk_at "hx go"
    refine g_ixS (n := sw c) (by decide +kernel) (by rw [stepsS, S_cps]; exact inv_ix c hc) ?_
    exact q

theorem sc_law_inverse : FnScope ["_law_path_here", "_law_step"] ["_law_path_here"] (defScope s_law_inverse) := ⟨rfl, rfl, rfl, by decide +kernel, rfl, by decide +kernel, by decide +kernel⟩
def nm_law_inverse : List Str := ["_law_path_here", "_law_step"]
def sp_law_inverse (K : PySem.W.Frag) : Sp := fun vs H Q _ => ∃ (l : List Nat), vs = [.str (S l)] ∧ IsP l ∧ l.length ≤ 1000000 ∧ ∀ H', Same H H' → Q (.str (S (inv l))) H'
theorem ok_law_inverse (T : Txt K mg A) : FnOk P w K mg base CX0 2 A.a_law_inverse A.d_law_inverse ["_law_path_here"] (sp_law_inverse K) := by
  refine T.f_law_inverse.ok sc_law_inverse (fun vs H Q E h => ?_) (fun cdv A_ outer s H vs Q E hr h => ?_)
  · first | (obtain ⟨_, rfl, _⟩ := h; rfl) | (obtain ⟨_, _, rfl, _⟩ := h; rfl) | (obtain ⟨_, _, _, rfl, _⟩ := h; rfl) | (obtain ⟨_, _, _, _, rfl, _⟩ := h; rfl) | (obtain ⟨_, _, _, _, _, rfl, _⟩ := h; rfl) | (obtain ⟨_, _, _, _, _, _, rfl, _⟩ := h; rfl) | (obtain ⟨rfl, _⟩ := h; rfl)
  · obtain ⟨l, rfl, hl, hz, q⟩ := h
    refine ⟨_, (pss_one (ps_ret (pe_m1 PySem.F.slot_str_join PySem.F.type_str_join (mt_joinK (K := K) rfl) pe_str (pe_lc (own := [("_law_step", 1)]) (g := (gName 1)) (tt := tYes) rfl sc_law_inverse.nd (pi_str (pe_revS (pv 0))) (blkOk_by (N := nm_law_inverse) (sc := defScope s_law_inverse) (by decide +kernel)) (fun _ _ _ _ _ => (pg_name (i := 1) sc_law_inverse.nd rfl (by first | exact Or.inl rfl | exact Or.inr rfl))) (fun _ _ _ _ _ => pts_nil) (fun _ _ _ _ _ => (pe_call (ok_law_inverse_step T) (hr.mono (by decide)) (by rfl) T.g_law_inverse_step T.f_law_inverse_step.kp T.b_law_inverse_step .nil pass0 (pa_cons (pv 1) pa_nil))))))), ?_⟩
    dsimp only [L2.cxOf, L2.Cx.nox, L2.Cx.wish, L2.start, List.map, List.length_cons, List.length_nil, Nat.reduceAdd, Nat.reduceSub, List.replicate, List.cons_append, List.nil_append, nm_law_inverse]
    walk_at "hx go"
    refine ⟨by rw [S_len, sizeLine_eq]; omega, ?_⟩
    have e : (⟨(S l).cps.toList.reverse.toArray⟩ : Str) = S l.reverse := by rw [S_cps]; rfl
    rw [e]
    walk_at "hx go"
    intro D nD
    refine lc_it walk_str (fun i H2 => Same H H2 ∧ H2 D = some (.lst ((((l.reverse.take i).map sw).map sg).map V.str))) ?_ ?_ ?_ ?_
    · exact ⟨s_new (Same.refl H) nD, by rw [upd_same]; rfl⟩
    · intro i H2 _ _; trivial
    · rintro i x H2 H3 hi ⟨e2, hD⟩ ⟨rfl, c, ec, rfl⟩
      have ec2 : l.reverse[i]? = some c := by rw [← S_cps l.reverse, Array.getElem?_toList]; exact ec
      have hc : c ∈ stepC := hl c (List.mem_reverse.mp (List.mem_of_getElem? ec2))
      walk_at "hx go"
      refine ⟨rfl, ?_⟩
      walk_at "hx go"
      refine ⟨c, rfl, hc, ?_⟩
      refine ⟨_, hD, ?_, s_mut e2 nD, ?_⟩
      · simp only [List.length_map, List.length_take, List.length_reverse, sizeLine_eq]
        omega
      · rw [upd_same, List.take_succ, ec2]
        simp [sg]
    · rintro H2 ⟨e2, hD⟩
      rw [List.take_of_length_le (by show l.reverse.length ≤ (S l.reverse).length; rw [S_len]; exact Nat.le_refl _)] at hD
      refine g_joinK (l := (l.reverse.map sw).map sg) (sq_of hD) ?_ ?_
      · have h1 : ∀ m : List Nat, ((m.map sg).map (·.length)).sum = m.length := fun m => by
          induction m with
          | nil => rfl
          | cons c r ih => rw [List.map_cons, List.map_cons, List.sum_cons, ih]; simp [sg, S_len]; omega
        rw [h1, show (Str.ofString "").length = 0 from by decide +kernel]
        simp only [List.length_map, List.length_reverse]
        omega
      · rw [join_sg]
        exact q H2 e2

theorem sc_law_pairs : FnScope ["_law_path_here", "_law_at"] ["_law_path_here"] (defScope s_law_pairs) := ⟨rfl, rfl, rfl, by decide +kernel, rfl, by decide +kernel, by decide +kernel⟩
def nm_law_pairs : List Str := ["_law_path_here", "_law_at"]
/-- the places of the pairs -/
def prs (l : List Nat) : List Nat := (List.range (l.length - 1)).filter fun i => decide (l[i]? = (l[i + 1]?).map sw)
theorem prs_mem {l : List Nat} {i : Nat} (h : i ∈ prs l) : ∃ c, l[i]? = some (sw c) ∧ l[i + 1]? = some c := by
  obtain ⟨h1, h2⟩ := List.mem_filter.mp h
  have h1 := List.mem_range.mp h1
  have h2 := of_decide_eq_true h2
  have h3 : i + 1 < l.length := by omega
  rw [List.getElem?_eq_getElem h3] at h2
  exact ⟨l[i + 1], h2, List.getElem?_eq_getElem h3⟩
theorem prs_nil {l : List Nat} : prs l = [] ↔ Rd l := by
  constructor
  · intro h
    refine rd_of_at fun i x y hx hy e => ?_
    have h1 : i + 1 < l.length := (List.getElem?_eq_some_iff.mp hy).1
    have : i ∈ prs l := List.mem_filter.mpr ⟨List.mem_range.mpr (by omega), decide_eq_true (by rw [hx, hy, e]; rfl)⟩
    rw [h] at this
    cases this
  · intro h
    rw [List.eq_nil_iff_forall_not_mem]
    intro i hi
    obtain ⟨c, h1, h2⟩ := prs_mem hi
    exact rd_at h h1 h2 rfl
theorem prs_succ (l : List Nat) (i : Nat) : ((List.range (i + 1)).filter fun i => decide (l[i]? = (l[i + 1]?).map sw)) = ((List.range i).filter fun i => decide (l[i]? = (l[i + 1]?).map sw)) ++ (if decide (l[i]? = (l[i + 1]?).map sw) = true then [i] else []) := by
  rw [List.range_succ, List.filter_append]
  congr 1
  rw [List.filter_cons]
  rfl
def sp_law_pairs (K : PySem.W.Frag) : Sp := fun vs H Q _ => ∃ (l : List Nat), vs = [.str (S l)] ∧ IsP l ∧ l.length ≤ 1000000 ∧ ∀ p H', Same H H' → H p = none → H' p = some (.lst ((prs l).map fun i => V.int (i : Nat))) → Q (.ref p) H'
theorem ok_law_pairs (T : Txt K mg A) : FnOk P w K mg base CX0 2 A.a_law_pairs A.d_law_pairs ["_law_path_here"] (sp_law_pairs K) := by
  refine T.f_law_pairs.ok sc_law_pairs (fun vs H Q E h => ?_) (fun cdv A_ outer s H vs Q E hr h => ?_)
  · first | (obtain ⟨_, rfl, _⟩ := h; rfl) | (obtain ⟨_, _, rfl, _⟩ := h; rfl) | (obtain ⟨_, _, _, rfl, _⟩ := h; rfl) | (obtain ⟨_, _, _, _, rfl, _⟩ := h; rfl) | (obtain ⟨_, _, _, _, _, rfl, _⟩ := h; rfl) | (obtain ⟨_, _, _, _, _, _, rfl, _⟩ := h; rfl) | (obtain ⟨rfl, _⟩ := h; rfl)
  · obtain ⟨l, rfl, hl, hz, q⟩ := h
    refine ⟨_, (pss_one (ps_ret (pe_lc (own := [("_law_at", 1)]) (g := (gName 1))  rfl sc_law_pairs.nd (pi_range1 (by rfl) T.z_range (pa_cons (pe_op op_sub (pe_callB (call_lenUK (K := K) rfl) (by rfl) T.z_len PySem.boot_len (pa_cons (pv 0) pa_nil)) pe_int) pa_nil)) (blkOk_by (N := nm_law_pairs) (sc := defScope s_law_pairs) (by decide +kernel)) (fun _ _ _ _ _ => (pg_name (i := 1) sc_law_pairs.nd rfl (by first | exact Or.inl rfl | exact Or.inr rfl))) (fun _ _ _ _ _ => (pts_one (pt_cmpR (op_eqUK (K := K) rfl hr.units) (pe_ix (ix_seqK (K := K) rfl) (pv 0) (pv 1) (fun _ _ => rfl)) (pe_call (ok_law_inverse_step T) (hr.mono (by decide)) (by rfl) T.g_law_inverse_step T.f_law_inverse_step.kp T.b_law_inverse_step .nil pass0 (pa_cons (pe_ix (ix_seqK (K := K) rfl) (pv 0) (pe_op op_addU (pv 1) pe_int) (fun _ _ => rfl)) pa_nil)) rfl))) (fun _ _ _ _ _ => (pv 1))))), ?_⟩
    dsimp only [L2.cxOf, L2.Cx.nox, L2.Cx.wish, L2.start, List.map, List.length_cons, List.length_nil, Nat.reduceAdd, Nat.reduceSub, List.replicate, List.cons_append, List.nil_append, nm_law_pairs]
    walk_at "hx go"
    refine g_lenS (by rw [S_len, sizeLine_eq]; omega) ?_
    rw [S_len]
    walk_at "hx go"
    refine g_srcR (j := (l.length : Int) - 1) (by omega) ?_
    intro D nD
    refine lc_it walk_range (fun i H2 => Same H H2 ∧ H2 D = some (.lst (((List.range i).filter fun i => decide (l[i]? = (l[i + 1]?).map sw)).map fun i => V.int (i : Nat)))) ?_ ?_ ?_ ?_
    · exact ⟨s_new (Same.refl H) nD, by rw [upd_same]; rfl⟩
    · intro i H2 _ _; trivial
    · rintro i x H2 H3 hi ⟨e2, hD⟩ ⟨rfl, rfl⟩
      simp only [Int.zero_add]
      have hi2 : i + 1 < l.length := by omega
      have e1 : l[i]? = some l[i] := List.getElem?_eq_getElem (by omega)
      have e3 : l[i + 1]? = some l[i + 1] := List.getElem?_eq_getElem hi2
      rw [prs_succ, e1, e3]
      walk_at "hx go"
      refine ⟨rfl, ?_⟩
      walk_at "hx go"
      refine g_ixS (n := l[i]) (by rw [S_len, sizeLine_eq]; omega) (by rw [S_cps]; exact atI_nat e1) ?_
      walk_at "hx go"
      refine g_ixS (n := l[i + 1]) (by rw [S_len, sizeLine_eq]; omega) (by rw [S_cps]; exact atI_nat (j := i + 1) e3) ?_
      walk_at "hx go"
      refine ⟨l[i + 1], rfl, hl _ (List.getElem_mem _), ?_⟩
      walk_at "hx go"
      by_cases ec : l[i] = sw l[i + 1]
      · refine g_yesD (by rw [ec]; rfl) ?_
        walk_at "hx go"
        refine ⟨_, hD, ?_, s_mut e2 nD, ?_⟩
        · rw [List.length_map, sizeLine_eq]
          have := List.length_filter_le (fun i => decide (l[i]? = (l[i + 1]?).map sw)) (List.range i)
          rw [List.length_range] at this
          omega
        · rw [upd_same, if_pos (by rw [ec]; simp)]
          simp
      · refine g_noD (fun h => ec (by have := S_inj h; simpa using this)) ?_
        refine ⟨e2, ?_⟩
        rw [hD, if_neg (by simp [ec])]
        simp
    · rintro H2 ⟨e2, hD⟩
      refine q D H2 e2 nD ?_
      rw [hD]
      unfold prs
      rw [show ((l.length : Int) - 1).toNat = l.length - 1 from by omega]

end
/-- a pool of draws at p -/
def PoolAt (H : Hp) (p : Addr) : Prop := ∃ x y : Int, 0 ≤ x ∧ 0 ≤ y ∧ y < 2147483647 ∧ H p = some (.lst [.int x, .int y])
theorem cut_ints (ns : List Int) (lo hi : Option Int) : ∃ ms : List Int, ms.length ≤ ns.length ∧ cutV (ns.map V.int) lo hi = ms.map V.int :=
  ⟨(ns.drop (HT.sIx (ns.map V.int).length 0 lo)).take (HT.sIx (ns.map V.int).length (ns.map V.int).length hi - HT.sIx (ns.map V.int).length 0 lo), by
    rw [List.length_take, List.length_drop]; omega, by unfold cutV; rw [List.map_take, List.map_drop]⟩
theorem at0 (ms : List Int) : ∃ c : Int, atI (ms.map V.int ++ [V.int 0]) 0 = some (.int c) := by
  cases ms with
  | nil => exact ⟨0, rfl⟩
  | cons c r => exact ⟨c, atI_nat (j := 0) rfl⟩
theorem b01 (b : Bool) : (0 : Int) ≤ (if b = true then 1 else 0) ∧ (if b = true then (1 : Int) else 0) ≤ 1 := by cases b <;> decide
theorem PoolAt.same {H H' : Hp} {p : Addr} (e : Same H H') (h : PoolAt H p) : PoolAt H' p := by
  obtain ⟨x, y, h1, h2, h3, h4⟩ := h
  exact ⟨x, y, h1, h2, h3, e _ _ h4⟩
theorem PoolAt.ne {H : Hp} {p D : Addr} (h : PoolAt H p) (n : H D = none) : D ≠ p := fun e => by
  obtain ⟨_, _, _, _, _, q⟩ := h
  rw [e, q] at n; cases n
theorem PoolAt.oth {H : Hp} {p D : Addr} {u : HO} (h : PoolAt H p) (n : p ≠ D) : PoolAt (upd H D u) p := by
  obtain ⟨x, y, h1, h2, h3, h4⟩ := h
  exact ⟨x, y, h1, h2, h3, u_oth n h4⟩
section
variable {P : Program} {w : World} {K : PySem.W.Frag} {mg : Str → Option Value} {base : Heap} {A : Ad}
theorem sc_law_take : FnScope ["_law_pool_here", "_law_many", "_law_digit"] ["_law_pool_here", "_law_many"] (defScope s_law_take) := ⟨rfl, rfl, rfl, by decide +kernel, rfl, by decide +kernel, by decide +kernel⟩
def nm_law_take : List Str := ["_law_pool_here", "_law_many", "_law_digit"]
def sp_law_take (K : PySem.W.Frag) : Sp := fun vs H Q _ => ∃ (p : Addr) (m : Int), vs = [.ref p, .int m] ∧ PoolAt H p ∧ 0 < m ∧ m ≤ 1000000 ∧
  ∀ (d : Nat) H', (d : Int) < m → But p H H' → (∀ b, H b = none → H' b = none) → PoolAt H' p → Q (.int (d : Nat)) H'
theorem ok_law_take (T : Txt K mg A) : FnOk P w K mg base CX0 1 A.a_law_take A.d_law_take ["_law_pool_here", "_law_many"] (sp_law_take K) := by
  refine T.f_law_take.ok sc_law_take (fun vs H Q E h => ?_) (fun cdv A_ outer s H vs Q E hr h => ?_)
  · first | (obtain ⟨_, rfl, _⟩ := h; rfl) | (obtain ⟨_, _, rfl, _⟩ := h; rfl) | (obtain ⟨_, _, _, rfl, _⟩ := h; rfl) | (obtain ⟨_, _, _, _, rfl, _⟩ := h; rfl) | (obtain ⟨_, _, _, _, _, rfl, _⟩ := h; rfl) | (obtain ⟨_, _, _, _, _, _, rfl, _⟩ := h; rfl) | (obtain ⟨rfl, _⟩ := h; rfl)
  · obtain ⟨p, m, rfl, ⟨x, y, hx, hy, hy2, hp⟩, hm, hm2, q⟩ := h
    refine ⟨_, (pss_cons (ps_if (pt_cmpR op_gt (pe_ix (ix_seqK (K := K) rfl) (pv 0) pe_int (fun _ _ => rfl)) pe_int rfl) (pss_cons (ps_set (i := 2) sc_law_take.nd rfl (by first | exact Or.inl rfl | exact Or.inr rfl) (pe_op op_mod (pe_ix (ix_seqK (K := K) rfl) (pv 0) pe_int (fun _ _ => rfl)) (pv 1)))
      (pss_cons (ps_asg (pe_op op_fdiv (pe_ix (ix_seqK (K := K) rfl) (pv 0) pe_int (fun _ _ => rfl)) (pv 1)) (pg_sub (pv 0) pe_int set_list))
      (pss_one (ps_ret (pv 2))))) pss_nil)
      (pss_cons (ps_asg (pe_op op_mod (pe_op op_addU (pe_op op_mulU (pe_ix (ix_seqK (K := K) rfl) (pv 0) pe_int (fun _ _ => rfl)) pe_int) pe_int) pe_int) (pg_sub (pv 0) pe_int set_list))
      (pss_one (ps_ret (pe_op op_mod (pe_op op_fdiv (pe_op op_mod (pe_op op_mulU (pe_ix (ix_seqK (K := K) rfl) (pv 0) pe_int (fun _ _ => rfl)) (pe_ix (ix_seqK (K := K) rfl) (pv 0) pe_int (fun _ _ => rfl))) pe_int) pe_int) (pv 1)))))), ?_⟩
    dsimp only [L2.cxOf, L2.Cx.nox, L2.Cx.wish, L2.start, List.map, List.length_cons, List.length_nil, Nat.reduceAdd, Nat.reduceSub, List.replicate, List.cons_append, List.nil_append, nm_law_take]
    have hS1 : SqL K H p [.int x, .int y] := sq_of hp
    have pn : ∀ {H' : Hp} {o u : HO}, (H' p = some o) → ∀ b, H' b = none → upd H' p u b = none := fun h b n => f_new (fun e => by rw [e, h] at n; cases n) n
    walk_at "hx go"
    refine g_ixL hS1 (atI_nat (j := 0) rfl) ?_
    walk_at "hx go"
    refine g_byD (fun h0 => ?_) (fun h0 => ?_)
    · walk_at "hx go"
      refine g_ixL hS1 (atI_nat (j := 0) rfl) ?_
      walk_at "hx go"
      refine g_mod hm ?_
      walk_at "hx go"
      refine g_ixL hS1 (atI_nat (j := 0) rfl) ?_
      walk_at "hx go"
      refine g_div ⟨hm, by omega⟩ ?_
      walk_at "hx go"
      refine g_setL (i := 0) hp (by show 0 < 2; decide) ?_
      walk_at "hx go"
      have e := Int.toNat_of_nonneg (Int.emod_nonneg x (show m ≠ 0 by omega))
      have e2 := Int.emod_lt_of_pos x hm
      have q1 := q (x % m).toNat (upd H p (.lst [.int (x / m), .int y])) (by omega) (But.own (But.refl p H)) (pn hp) ⟨_, _, Int.ediv_nonneg hx (by omega), hy, hy2, upd_same⟩
      rw [e] at q1
      exact q1
    · walk_at "hx go"
      refine g_ixL hS1 (atI_nat (j := 1) rfl) ?_
      walk_at "hx go"
      refine g_mulI (.inr ⟨by decide, by decide⟩) ?_
      walk_at "hx go"
      refine g_mod (by decide) ?_
      walk_at "hx go"
      refine g_setL (i := 1) hp (by show 1 < 2; decide) ?_
      have hm0 := Int.emod_nonneg (y * 48271 + 12345) (show (2147483647 : Int) ≠ 0 by decide)
      have hm1 := Int.emod_lt_of_pos (y * 48271 + 12345) (show (0 : Int) < 2147483647 by decide)
      generalize (y * 48271 + 12345) % 2147483647 = z at *
      have hp2 : upd H p (.lst ([V.int x, .int y].set 1 (.int z))) p = some (.lst [.int x, .int z]) := upd_same
      have hS2 : SqL K (upd H p (.lst ([V.int x, .int y].set 1 (.int z)))) p [.int x, .int z] := sq_of hp2
      walk_at "hx go"
      refine g_ixL hS2 (atI_nat (j := 1) rfl) ?_
      walk_at "hx go"
      refine g_ixL hS2 (atI_nat (j := 1) rfl) ?_
      walk_at "hx go"
      refine g_mulI (.inl ⟨by omega, by omega⟩) ?_
      walk_at "hx go"
      refine g_mod (by decide) ?_
      walk_at "hx go"
      refine g_div ⟨by decide, by decide⟩ ?_
      walk_at "hx go"
      refine g_mod hm ?_
      have e := Int.toNat_of_nonneg (Int.emod_nonneg (z * z % 2147483629 / 64) (show m ≠ 0 by omega))
      have e2 := Int.emod_lt_of_pos (z * z % 2147483629 / 64) hm
      have q1 := q (z * z % 2147483629 / 64 % m).toNat (upd H p (.lst [.int x, .int z])) (by omega) (But.own (But.refl p H)) (pn hp) ⟨x, z, hx, hm0, hm1, upd_same⟩
      rw [e] at q1
      exact q1

end
theorem cut_to (l : List Nat) (k : Nat) : cutS (S l) none (some (k : Int)) = S (l.take k) := by
  unfold cutS
  rw [HT.sIx_none, HT.sIx_nat, S_cps, S_len, List.drop_zero, Nat.sub_zero]
  show S _ = _
  congr 1
  by_cases h : k ≤ l.length
  · rw [Nat.min_eq_left h]
  · rw [Nat.min_eq_right (by omega), List.take_of_length_le (Nat.le_refl _), List.take_of_length_le (by omega)]
theorem cut_from (l : List Nat) (k : Nat) : cutS (S l) (some (k : Int)) none = S (l.drop k) := by
  unfold cutS
  rw [HT.sIx_none, HT.sIx_nat, S_cps, S_len]
  show S _ = _
  congr 1
  by_cases h : k ≤ l.length
  · rw [Nat.min_eq_left h, List.take_of_length_le (by rw [List.length_drop]; exact Nat.le_refl _)]
  · rw [Nat.min_eq_right (by omega), List.drop_of_length_le (Nat.le_refl _), List.drop_of_length_le (by omega), List.take_nil]
theorem cut_last (l : List Nat) (x : Nat) : cutS (S (l ++ [x])) none (some (-1)) = S l := by
  unfold cutS
  have e : HT.sIx (S (l ++ [x])).length (S (l ++ [x])).length (some (-1)) = l.length := by
    rw [S_len, List.length_append, List.length_singleton]
    show (if (-1 : Int) < 0 then ((-1 : Int) + ((l.length + 1 : Nat) : Int)).toNat else min (-1 : Int).toNat (l.length + 1)) = l.length
    rw [if_pos (by decide)]
    omega
  rw [e, HT.sIx_none, S_cps, List.drop_zero, Nat.sub_zero]
  show S _ = _
  congr 1
  simp
section
variable {P : Program} {w : World} {K : PySem.W.Frag} {mg : Str → Option Value} {base : Heap} {A : Ad}
theorem sc_law_struck : FnScope ["_law_pool_here", "_law_path_here", "_law_left", "_law_some", "_law_at"] ["_law_pool_here", "_law_path_here"] (defScope s_law_struck) := ⟨rfl, rfl, rfl, by decide +kernel, rfl, by decide +kernel, by decide +kernel⟩
def nm_law_struck : List Str := ["_law_pool_here", "_law_path_here", "_law_left", "_law_some", "_law_at"]
theorem cut_pair {l : List Nat} {i c : Nat} (h1 : l[i]? = some (sw c)) (h2 : l[i + 1]? = some c) : l = l.take i ++ sw c :: sw (sw c) :: l.drop (i + 2) := by
  rw [sw_sw]
  obtain ⟨g1, e1⟩ := List.getElem?_eq_some_iff.mp h1
  obtain ⟨g2, e2⟩ := List.getElem?_eq_some_iff.mp h2
  conv => lhs; rw [← List.take_append_drop i l, List.drop_eq_getElem_cons g1, List.drop_eq_getElem_cons g2, e1, e2]
def sp_law_struck (K : PySem.W.Frag) : Sp := fun vs H Q _ => ∃ (p : Addr) (l : List Nat), vs = [.ref p, .str (S l)] ∧ PoolAt H p ∧ IsP l ∧ l.length ≤ 1000 ∧ ∀ H', But p H H' → PoolAt H' p → Q (.str (S (red l))) H'
theorem ok_law_struck (T : Txt K mg A) : FnOk P w K mg base CX0 3 A.a_law_struck A.d_law_struck ["_law_pool_here", "_law_path_here"] (sp_law_struck K) := by
  refine T.f_law_struck.ok sc_law_struck (fun vs H Q E h => ?_) (fun cdv A_ outer s H vs Q E hr h => ?_)
  · first | (obtain ⟨_, rfl, _⟩ := h; rfl) | (obtain ⟨_, _, rfl, _⟩ := h; rfl) | (obtain ⟨_, _, _, rfl, _⟩ := h; rfl) | (obtain ⟨_, _, _, _, rfl, _⟩ := h; rfl) | (obtain ⟨_, _, _, _, _, rfl, _⟩ := h; rfl) | (obtain ⟨_, _, _, _, _, _, rfl, _⟩ := h; rfl) | (obtain ⟨rfl, _⟩ := h; rfl)
  · obtain ⟨p, l, rfl, hp, hl, hz, q⟩ := h
    refine ⟨_, (pss_cons (ps_set (i := 2) sc_law_struck.nd rfl (by first | exact Or.inl rfl | exact Or.inr rfl) (pv 1))
      (pss_cons (ps_set (i := 3) sc_law_struck.nd rfl (by first | exact Or.inl rfl | exact Or.inr rfl) (pe_call (ok_law_pairs T) (hr.mono (by decide)) (by rfl) T.g_law_pairs T.f_law_pairs.kp T.b_law_pairs .nil pass0 (pa_cons (pv 2) pa_nil)))
      (pss_cons (ps_while PassesOwn.never (pt_cmpR (op_neUK (K := K) rfl hr.units) (pv 3) (pe_lst pa_nil) rfl) (pss_cons (ps_set (i := 4) sc_law_struck.nd rfl (by first | exact Or.inl rfl | exact Or.inr rfl) (pe_ix (ix_seqK (K := K) rfl) (pv 3) (pe_call (ok_law_take T) (hr.mono (by decide)) (by rfl) T.g_law_take T.f_law_take.kp T.b_law_take .nil pass0 (pa_cons (pv 0) (pa_cons (pe_callB (call_lenUK (K := K) rfl) (by rfl) T.z_len PySem.boot_len (pa_cons (pv 3) pa_nil)) pa_nil))) (fun _ _ => rfl)))
      (pss_cons (ps_set (i := 2) sc_law_struck.nd rfl (by first | exact Or.inl rfl | exact Or.inr rfl) (pe_op op_addU (pe_slice (sl_UK (K := K) rfl) (pv 2) po_none (po_some (pv 4))) (pe_slice (sl_UK (K := K) rfl) (pv 2) (po_some (pe_op op_addU (pv 4) pe_int)) po_none)))
      (pss_one (ps_set (i := 3) sc_law_struck.nd rfl (by first | exact Or.inl rfl | exact Or.inr rfl) (pe_call (ok_law_pairs T) (hr.mono (by decide)) (by rfl) T.g_law_pairs T.f_law_pairs.kp T.b_law_pairs .nil pass0 (pa_cons (pv 2) pa_nil)))))))
      (pss_one (ps_ret (pv 2)))))), ?_⟩
    dsimp only [L2.cxOf, L2.Cx.nox, L2.Cx.wish, L2.start, List.map, List.length_cons, List.length_nil, Nat.reduceAdd, Nat.reduceSub, List.replicate, List.cons_append, List.nil_append, nm_law_struck]
    walk_at "hx go"
    refine ⟨l, rfl, hl, by omega, fun D0 H1 e1 n1 hD1 => ?_⟩
    walk_at "hx go"
    refine ⟨fun m σ H' => ∃ (left : List Nat) (D : Addr) (v4 : Option V), σ = [some (.ref p), some (.str (S l)), some (.str (S left)), some (.ref D), v4] ∧ m = left.length ∧ IsP left ∧ Fr l left ∧ left.length ≤ 1000 ∧ But p H H' ∧ PoolAt H' p ∧ H' D = some (.lst ((prs left).map fun i => V.int (i : Nat))) ∧ D ≠ p,
      ⟨_, l, D0, none, rfl, rfl, hl, .refl _, hz, .of e1, hp.same e1, hD1, hp.ne n1⟩, ?_⟩
    rintro m σ H2 ⟨left, D, v4, rfl, rfl, hL, fr, hz2, b2, P2, hD, neD⟩
    walk_at "hx go"
    refine g_sz (by simp) fun p1 np1 => ?_
    walk_at "hx go"
    have E : Emb (fun n : Nat => PyData.int (n : Int)) (fun _ => True) 0 := Emb.int.comp (fun n : Nat => (n : Int)) fun a b h => by omega
    have hD3 : (upd H2 p1 (.lst [])) D = some (.lst ((prs left).map fun i => V.int (i : Nat))) := u_old np1 hD
    have P3 : PoolAt (upd H2 p1 (.lst [])) p := P2.same (s_new (Same.refl _) np1)
    have b3 : But p H (upd H2 p1 (.lst [])) := b2.new np1
    refine g_neD (.lst (sq_of hD3) (dp_map (fun i => .int (i : Nat)) _)) (.lst (sq_of upd_same) .nil) (E.list.shaped _ fun _ _ => trivial) rfl ?_
    rw [eqv_nil E]
    generalize upd H2 p1 (.lst []) = H3 at *
    walk_at "hx go"
    refine g_byN (fun hne => ?_) fun hnil => ?_
    · refine ⟨fun σ' H' => ∃ (left' : List Nat) (D : Addr) (v4 : Option V), σ' = [some (.ref p), some (.str (S l)), some (.str (S left')), some (.ref D), v4] ∧ left'.length < left.length ∧ IsP left' ∧ Fr l left' ∧ left'.length ≤ 1000 ∧ But p H H' ∧ PoolAt H' p ∧ H' D = some (.lst ((prs left').map fun i => V.int (i : Nat))) ∧ D ≠ p,
        fun σ' H' h => ?_, ?_⟩
      · obtain ⟨l', D', v, h1, h2, h3, h4, h5, h6, h7, h8⟩ := h
        exact ⟨_, h2, l', D', v, h1, rfl, h3, h4, h5, h6, h7, h8⟩
      · walk_at "hx go"
        refine g_lenL (sq_of hD3) ?_
        rw [List.length_map]
        have hpos : 0 < (prs left).length := List.length_pos_iff.mpr hne
        have hle : (prs left).length ≤ 1000 := by
          have h1 := List.length_filter_le (fun i => decide (left[i]? = (left[i + 1]?).map sw)) (List.range (left.length - 1))
          rw [List.length_range] at h1
          unfold prs; omega
        walk_at "hx go"
        refine ⟨p, _, rfl, P3, by omega, by omega, fun d H4 hd b4 f4 P4 => ?_⟩
        have hd' : d < (prs left).length := by omega
        have hD4 := b4 D _ neD hD3
        have ed : (prs left)[d]? = some (prs left)[d] := List.getElem?_eq_getElem hd'
        obtain ⟨c, h1, h2⟩ := prs_mem (List.getElem_mem hd')
        generalize (prs left)[d] = i at *
        have hi : i + 1 < left.length := (List.getElem?_eq_some_iff.mp h2).1
        refine g_ixL (sq_of hD4) (v := .int (i : Nat)) (by refine atI_nat (j := d) ?_; rw [List.getElem?_map, ed]; rfl) ?_
        walk_at "hx go"
        refine g_slS (by rw [S_len, sizeLine_eq]; omega) ?_
        rw [cut_to]
        walk_at "hx go"
        refine g_slS (by rw [S_len, sizeLine_eq]; omega) ?_
        rw [show ((i : Nat) : Int) + 2 = ((i + 2 : Nat) : Int) from rfl, cut_from]
        refine g_addS (by rw [S_len, S_len, List.length_take, List.length_drop, sizeLine_eq]; omega) ?_
        rw [S_app]
        have hf : Fr left (left.take i ++ left.drop (i + 2)) := by
          have := Fr.pair (left.take i) (sw c) (left.drop (i + 2))
          rwa [← cut_pair h1 h2] at this
        have hl' : (left.take i ++ left.drop (i + 2)).length < left.length := by rw [List.length_append, List.length_take, List.length_drop]; omega
        have hP' : IsP (left.take i ++ left.drop (i + 2)) := fun x hx => (List.mem_append.mp hx).elim (fun h => hL x (List.mem_of_mem_take h)) fun h => hL x (List.mem_of_mem_drop h)
        generalize left.take i ++ left.drop (i + 2) = nl at *
        walk_at "hx go"
        refine ⟨nl, rfl, hP', by omega, fun D' H5 e5 n5 hD5 => ?_⟩
        exact ⟨nl, D', _, rfl, hl', hP', fr.trans hf, by omega, (b3.trans b4).trans (.of e5), P4.same e5, hD5, P4.ne n5⟩
    · walk_at "hx go"
      have h1 : red l = left := by rw [fr.red, red_rd (prs_nil.mp hnil)]
      rw [← h1]
      exact q H3 b3 P3

theorem sc_law_right : FnScope ["_law_pool_here", "_law_path_here", "_law_due", "_law_found"] ["_law_pool_here", "_law_path_here", "_law_due"] (defScope s_law_right) := ⟨rfl, rfl, rfl, by decide +kernel, rfl, by decide +kernel, by decide +kernel⟩
def nm_law_right : List Str := ["_law_pool_here", "_law_path_here", "_law_due", "_law_found"]
def sp_law_right (K : PySem.W.Frag) : Sp := fun vs H Q _ => ∃ (p : Addr) (l : List Nat), vs = [.ref p, .str (S l), .str (S (red l))] ∧ PoolAt H p ∧ IsP l ∧ l.length ≤ 400 ∧ ∀ H', But p H H' → PoolAt H' p → Q (.bl true) H'
theorem ok_law_right (T : Txt K mg A) : FnOk P w K mg base CX0 4 A.a_law_right A.d_law_right ["_law_pool_here", "_law_path_here", "_law_due"] (sp_law_right K) := by
  refine T.f_law_right.ok sc_law_right (fun vs H Q E h => ?_) (fun cdv A_ outer s H vs Q E hr h => ?_)
  · first | (obtain ⟨_, rfl, _⟩ := h; rfl) | (obtain ⟨_, _, rfl, _⟩ := h; rfl) | (obtain ⟨_, _, _, rfl, _⟩ := h; rfl) | (obtain ⟨_, _, _, _, rfl, _⟩ := h; rfl) | (obtain ⟨_, _, _, _, _, rfl, _⟩ := h; rfl) | (obtain ⟨_, _, _, _, _, _, rfl, _⟩ := h; rfl) | (obtain ⟨rfl, _⟩ := h; rfl)
  · obtain ⟨p, l, rfl, hp, hl, hz, q⟩ := h
    refine ⟨_, (pss_cons (ps_set (i := 3) sc_law_right.nd rfl (by first | exact Or.inl rfl | exact Or.inr rfl) (pe_call (ok_reduced T) (hr.mono (by decide)) (by rfl) T.g_reduced T.f_reduced.kp T.b_reduced .nil pass0 (pa_cons (pv 1) pa_nil)))
      (pss_cons (ps_if (PW.pt (pw_or (pt_cmpR (op_neUK (K := K) rfl hr.units) (pv 3) (pv 2) rfl) (pw_or1 (pt_cmpR (op_neUK (K := K) rfl hr.units) (pv 3) (pe_call (ok_law_struck T) (hr.mono (by decide)) (by rfl) T.g_law_struck T.f_law_struck.kp T.b_law_struck .nil pass0 (pa_cons (pv 0) (pa_cons (pv 1) pa_nil))) rfl)))) (pss_one (ps_ret pe_bl)) pss_nil)
      (pss_cons (ps_if (pt_cmpR (op_neUK (K := K) rfl hr.units) (pe_callB call_reprU (by rfl) T.z_repr PyProof.Rows.boot_repr (pa_cons (pe_call (ok_is_reduced T) (hr.mono (by decide)) (by rfl) T.g_is_reduced T.f_is_reduced.kp T.b_is_reduced .nil pass0 (pa_cons (pv 1) pa_nil)) pa_nil)) (pe_callB call_reprU (by rfl) T.z_repr PyProof.Rows.boot_repr (pa_cons (pe_cmpR (op_eqUK (K := K) rfl hr.units) (pe_call (ok_law_pairs T) (hr.mono (by decide)) (by rfl) T.g_law_pairs T.f_law_pairs.kp T.b_law_pairs .nil pass0 (pa_cons (pv 1) pa_nil)) (pe_lst pa_nil) rfl) pa_nil)) rfl) (pss_one (ps_ret pe_bl)) pss_nil)
      (pss_cons (ps_if (PW.pt (pw_or (pt_cmpR (op_neUK (K := K) rfl hr.units) (pe_call (ok_inverse T) (hr.mono (by decide)) (by rfl) T.g_inverse T.f_inverse.kp T.b_inverse .nil pass0 (pa_cons (pv 1) pa_nil)) (pe_call (ok_law_inverse T) (hr.mono (by decide)) (by rfl) T.g_law_inverse T.f_law_inverse.kp T.b_law_inverse .nil pass0 (pa_cons (pv 1) pa_nil)) rfl) (pw_or1 (pt_cmpR (op_neUK (K := K) rfl hr.units) (pe_call (ok_inverse T) (hr.mono (by decide)) (by rfl) T.g_inverse T.f_inverse.kp T.b_inverse .nil pass0 (pa_cons (pe_call (ok_inverse T) (hr.mono (by decide)) (by rfl) T.g_inverse T.f_inverse.kp T.b_inverse .nil pass0 (pa_cons (pv 1) pa_nil)) pa_nil)) (pv 1) rfl)))) (pss_one (ps_ret pe_bl)) pss_nil)
      (pss_one (ps_ret (pe_and (pe_cmpR op_isBl (pe_call (ok_is_reduced T) (hr.mono (by decide)) (by rfl) T.g_is_reduced T.f_is_reduced.kp T.b_is_reduced .nil pass0 (pa_cons (pv 3) pa_nil)) pe_bl rfl) (pe_and (pe_cmpR (op_eqUK (K := K) rfl hr.units) (pe_call (ok_reduced T) (hr.mono (by decide)) (by rfl) T.g_reduced T.f_reduced.kp T.b_reduced .nil pass0 (pa_cons (pv 3) pa_nil)) (pv 3) rfl) (pe_one (pe_cmpR (op_eqUK (K := K) rfl hr.units) (pe_call (ok_reduced T) (hr.mono (by decide)) (by rfl) T.g_reduced T.f_reduced.kp T.b_reduced .nil pass0 (pa_cons (pe_call (ok_inverse T) (hr.mono (by decide)) (by rfl) T.g_inverse T.f_inverse.kp T.b_inverse .nil pass0 (pa_cons (pv 1) pa_nil)) pa_nil)) (pe_call (ok_inverse T) (hr.mono (by decide)) (by rfl) T.g_inverse T.f_inverse.kp T.b_inverse .nil pass0 (pa_cons (pv 3) pa_nil)) rfl)))))))))), ?_⟩
    dsimp only [L2.cxOf, L2.Cx.nox, L2.Cx.wish, L2.start, List.map, List.length_cons, List.length_nil, Nat.reduceAdd, Nat.reduceSub, List.replicate, List.cons_append, List.nil_append, nm_law_right]
    have hr1 : (red l).length ≤ 400 := Nat.le_trans (red_len l) hz
    have hr2 : IsP (red l) := hl.red
    have E : Emb (fun n : Nat => PyData.int (n : Int)) (fun _ => True) 0 := Emb.int.comp (fun n : Nat => (n : Int)) fun a b h => by omega
    walk_at "hx go"
    refine ⟨l, rfl, hl, hz, fun H1 e1 => ?_⟩
    walk_at "hx go"
    refine g_byN (fun h => absurd rfl h) fun _ => ?_
    walk_at "hx go"
    refine ⟨p, l, rfl, hp.same e1, hl, by omega, fun H2 b2 P2 => ?_⟩
    walk_at "hx go"
    refine g_byN (fun h => absurd rfl h) fun _ => ?_
    walk_at "hx go"
    refine ⟨l, rfl, hl, hz, fun H3 e3 => ?_⟩
    walk_at "hx go"
    refine ⟨l, rfl, hl, by omega, fun D H4 e4 n4 hD => ?_⟩
    walk_at "hx go"
    refine g_sz (by simp) fun p1 np1 => ?_
    walk_at "hx go"
    have hD5 := u_old (u := .lst []) np1 hD
    have e5 : Same H2 (upd H4 p1 (.lst [])) := s_new (e3.trans e4) np1
    refine g_eqD (.lst (sq_of hD5) (dp_map (fun i => .int (i : Nat)) _)) (.lst (sq_of upd_same) .nil) (E.list.shaped _ fun _ _ => trivial) rfl ?_
    rw [eqv_nil E, decide_eq_decide.mpr (show prs l = [] ↔ red l = l from prs_nil.trans (rd_iff l))]
    walk_at "hx go"
    refine g_byN (fun h => absurd rfl h) fun _ => ?_
    walk_at "hx go"
    refine ⟨l, rfl, hl, hz, fun H6 e6 => ?_⟩
    walk_at "hx go"
    refine ⟨l, rfl, hl, by omega, fun H7 e7 => ?_⟩
    walk_at "hx go"
    refine g_byN (fun h => absurd rfl h) fun _ => ?_
    walk_at "hx go"
    refine ⟨l, rfl, hl, hz, fun H8 e8 => ?_⟩
    walk_at "hx go"
    refine ⟨inv l, rfl, hl.inv, by rw [inv_len]; exact hz, fun H9 e9 => ?_⟩
    rw [inv_inv]
    walk_at "hx go"
    refine g_byN (fun h => absurd rfl h) fun _ => ?_
    walk_at "hx go"
    refine ⟨red l, rfl, hr2, hr1, fun H10 e10 => ?_⟩
    refine ⟨_, true, rfl, rfl, ?_⟩
    rw [red_red, decide_eq_true rfl, decide_eq_true rfl]
    walk_at "hx go"
    refine ⟨red l, rfl, hr2, hr1, fun H11 e11 => ?_⟩
    walk_at "hx go"
    rw [red_red, decide_eq_true rfl]
    walk_at "hx go"
    refine ⟨l, rfl, hl, hz, fun H12 e12 => ?_⟩
    walk_at "hx go"
    refine ⟨inv l, rfl, hl.inv, by rw [inv_len]; exact hz, fun H13 e13 => ?_⟩
    walk_at "hx go"
    refine ⟨red l, rfl, hr2, hr1, fun H14 e14 => ?_⟩
    walk_at "hx go"
    rw [red_inv, decide_eq_true rfl]
    have eA : Same H2 H14 := ((((((((e5.trans e6).trans e7).trans e8).trans e9).trans e10).trans e11).trans e12).trans e13).trans e14
    exact q H14 ((But.of e1).trans (b2.trans (.of eA))) (P2.same eA)

theorem sc_law_reduced : FnScope ["_law_path_here", "_law_found", "_law_step"] ["_law_path_here"] (defScope s_law_reduced) := ⟨rfl, rfl, rfl, by decide +kernel, rfl, by decide +kernel, by decide +kernel⟩
def nm_law_reduced : List Str := ["_law_path_here", "_law_found", "_law_step"]
def sp_law_reduced (K : PySem.W.Frag) : Sp := fun vs H Q _ => ∃ (l : List Nat), vs = [.str (S l)] ∧ IsP l ∧ l.length ≤ 1000000 ∧ Q (.str (S (red l))) H
theorem ok_law_reduced (T : Txt K mg A) : FnOk P w K mg base CX0 2 A.a_law_reduced A.d_law_reduced ["_law_path_here"] (sp_law_reduced K) := by
  refine T.f_law_reduced.ok sc_law_reduced (fun vs H Q E h => ?_) (fun cdv A_ outer s H vs Q E hr h => ?_)
  · first | (obtain ⟨_, rfl, _⟩ := h; rfl) | (obtain ⟨_, _, rfl, _⟩ := h; rfl) | (obtain ⟨_, _, _, rfl, _⟩ := h; rfl) | (obtain ⟨_, _, _, _, rfl, _⟩ := h; rfl) | (obtain ⟨_, _, _, _, _, rfl, _⟩ := h; rfl) | (obtain ⟨_, _, _, _, _, _, rfl, _⟩ := h; rfl) | (obtain ⟨rfl, _⟩ := h; rfl)
  · obtain ⟨l, rfl, hl, hz, q⟩ := h
    refine ⟨_, (pss_cons (ps_set (i := 1) sc_law_reduced.nd rfl (by first | exact Or.inl rfl | exact Or.inr rfl) pe_str)
      (pss_cons (ps_for PassesOwn.never rfl (pi_str (pv 0)) (pg_name (i := 2) sc_law_reduced.nd rfl (by first | exact Or.inl rfl | exact Or.inr rfl)) (pss_one (ps_if (PW.pt (pw_and (pt_cmpR (op_neUK (K := K) rfl hr.units) (pv 1) pe_str rfl) (pw_and1 (pt_cmpR (op_eqUK (K := K) rfl hr.units) (pe_ix (ix_seqK (K := K) rfl) (pv 1) (pe_un un_neg pe_int) (fun _ _ => rfl)) (pe_call (ok_law_inverse_step T) (hr.mono (by decide)) (by rfl) T.g_law_inverse_step T.f_law_inverse_step.kp T.b_law_inverse_step .nil pass0 (pa_cons (pv 2) pa_nil)) rfl)))) (pss_one (ps_set (i := 1) sc_law_reduced.nd rfl (by first | exact Or.inl rfl | exact Or.inr rfl) (pe_slice (sl_UK (K := K) rfl) (pv 1) po_none (po_some (pe_un un_neg pe_int))))) (pss_one (ps_set (i := 1) sc_law_reduced.nd rfl (by first | exact Or.inl rfl | exact Or.inr rfl) (pe_op op_addU (pv 1) (pv 2)))))))
      (pss_one (ps_ret (pv 1))))), ?_⟩
    dsimp only [L2.cxOf, L2.Cx.nox, L2.Cx.wish, L2.start, List.map, List.length_cons, List.length_nil, Nat.reduceAdd, Nat.reduceSub, List.replicate, List.cons_append, List.nil_append, nm_law_reduced]
    walk_at "hx go"
    refine for_it walk_str (fun i σ H2 => (∃ v2, σ = [some (.str (S l)), some (.str (S (runP [] (l.take i)).reverse)), v2]) ∧ H2 = H) ⟨⟨_, rfl⟩, rfl⟩ (fun _ _ _ _ _ => trivial) ?_ ?_
    · rintro i x σ H2 H3 hi ⟨⟨v2, rfl⟩, rfl⟩ ⟨rfl, c, ec, rfl⟩
      have ec2 : l[i]? = some c := by rw [← S_cps l, Array.getElem?_toList]; exact ec
      have hc : c ∈ stepC := hl c (List.mem_of_getElem? ec2)
      have et : l.take (i + 1) = l.take i ++ [c] := by rw [List.take_succ, ec2]; rfl
      rw [et, runP_app]
      have hlen : (runP [] (l.take i)).length ≤ 1000000 := by
        have h1 := runP_len [] (l.take i)
        rw [List.length_take, List.length_nil] at h1
        omega
      generalize runP [] (l.take i) = st at *
      walk_at "hx go"
      cases st with
      | nil =>
        refine g_byN (fun h => absurd S_nil.symm h) fun _ => ?_
        walk_at "hx go"
        refine g_addS (by show 0 + 1 ≤ sizeLine; decide) ?_
        walk_at "hx go"
        exact ⟨⟨_, rfl⟩, rfl⟩
      | cons x r =>
        refine g_byN (fun _ => ?_) fun h => by rw [S_nil] at h; have := S_inj h; simp at this
        walk_at "hx go"
        refine g_ixS (n := x) (by rw [S_len, sizeLine_eq, List.length_reverse]; omega) (by rw [S_cps, List.reverse_cons]; exact atI_last _ _) ?_
        walk_at "hx go"
        refine ⟨c, rfl, hc, ?_⟩
        walk_at "hx go"
        by_cases exc : x = sw c
        · refine g_yesD (by rw [exc]; rfl) ?_
          walk_at "hx go"
          refine g_slS (by rw [S_len, sizeLine_eq, List.length_reverse]; omega) ?_
          rw [List.reverse_cons, cut_last]
          walk_at "hx go"
          refine ⟨⟨some (.str (S [c])), ?_⟩, rfl⟩
          show _ = [some (V.str (S l)), some (V.str (S (push (x :: r) c).reverse)), _]
          rw [push_cons, if_pos exc]
          rfl
        · refine g_noD (fun h => exc (by have := S_inj h; simpa using this)) ?_
          walk_at "hx go"
          refine g_addS (by rw [S_len, sizeLine_eq, List.length_reverse]; show _ + 1 ≤ _; omega) ?_
          walk_at "hx go"
          refine ⟨⟨some (.str (S [c])), ?_⟩, rfl⟩
          show _ = [some (V.str (S l)), some (V.str (S (push (x :: r) c).reverse)), _]
          rw [push_cons, if_neg exc, show (c :: x :: r).reverse = (x :: r).reverse ++ [c] from List.reverse_cons, show (⟨#[c]⟩ : Str) = S [c] from rfl, S_app]
          rfl
    · rintro σ H2 ⟨⟨v2, rfl⟩, rfl⟩
      have e : l.take (S l).cps.size = l := List.take_of_length_le (by show l.length ≤ (S l).length; rw [S_len]; exact Nat.le_refl _)
      rw [e]
      walk_at "hx go"
      exact q

theorem sc_law_wider : FnScope ["_law_pool_here", "_law_path_here", "_law_found", "_law_turn", "_law_at", "_law_step"] ["_law_pool_here", "_law_path_here"] (defScope s_law_wider) := ⟨rfl, rfl, rfl, by decide +kernel, rfl, by decide +kernel, by decide +kernel⟩
def nm_law_wider : List Str := ["_law_pool_here", "_law_path_here", "_law_found", "_law_turn", "_law_at", "_law_step"]
def sp_law_wider (K : PySem.W.Frag) : Sp := fun vs H Q _ => ∃ (p : Addr) (l : List Nat), vs = [.ref p, .str (S l)] ∧ PoolAt H p ∧ IsP l ∧ l.length ≤ 1000 ∧ ∀ (m : List Nat) H', IsP m → Fr l m → m.length ≤ l.length + 24 → But p H H' → PoolAt H' p → Q (.str (S m)) H'
theorem Fr.wide (l : List Nat) (i c : Nat) : Fr l (l.take i ++ c :: sw c :: l.drop i) := by
  have := Fr.pair (l.take i) c (l.drop i)
  rw [List.take_append_drop] at this
  exact this.symm
theorem ok_law_wider (T : Txt K mg A) : FnOk P w K mg base CX0 2 A.a_law_wider A.d_law_wider ["_law_pool_here", "_law_path_here"] (sp_law_wider K) := by
  refine T.f_law_wider.ok sc_law_wider (fun vs H Q E h => ?_) (fun cdv A_ outer s H vs Q E hr h => ?_)
  · first | (obtain ⟨_, rfl, _⟩ := h; rfl) | (obtain ⟨_, _, rfl, _⟩ := h; rfl) | (obtain ⟨_, _, _, rfl, _⟩ := h; rfl) | (obtain ⟨_, _, _, _, rfl, _⟩ := h; rfl) | (obtain ⟨_, _, _, _, _, rfl, _⟩ := h; rfl) | (obtain ⟨_, _, _, _, _, _, rfl, _⟩ := h; rfl) | (obtain ⟨rfl, _⟩ := h; rfl)
  · obtain ⟨p, l, rfl, hp, hl, hz, q⟩ := h
    refine ⟨_, (pss_cons (ps_set (i := 2) sc_law_wider.nd rfl (by first | exact Or.inl rfl | exact Or.inr rfl) (pv 1))
      (pss_cons (ps_for PassesOwn.never rfl (pi_range1 (by rfl) T.z_range (pa_cons (pe_call (ok_law_take T) (hr.mono (by decide)) (by rfl) T.g_law_take T.f_law_take.kp T.b_law_take .nil pass0 (pa_cons (pv 0) (pa_cons pe_int pa_nil))) pa_nil)) (pg_name (i := 3) sc_law_wider.nd rfl (by first | exact Or.inl rfl | exact Or.inr rfl)) (pss_cons (ps_set (i := 4) sc_law_wider.nd rfl (by first | exact Or.inl rfl | exact Or.inr rfl) (pe_call (ok_law_take T) (hr.mono (by decide)) (by rfl) T.g_law_take T.f_law_take.kp T.b_law_take .nil pass0 (pa_cons (pv 0) (pa_cons (pe_op op_addU (pe_callB (call_lenUK (K := K) rfl) (by rfl) T.z_len PySem.boot_len (pa_cons (pv 2) pa_nil)) pe_int) pa_nil))))
      (pss_cons (ps_set (i := 5) sc_law_wider.nd rfl (by first | exact Or.inl rfl | exact Or.inr rfl) (pe_ix (ix_seqK (K := K) rfl) pe_str (pe_call (ok_law_take T) (hr.mono (by decide)) (by rfl) T.g_law_take T.f_law_take.kp T.b_law_take .nil pass0 (pa_cons (pv 0) (pa_cons pe_int pa_nil))) (fun _ _ => rfl)))
      (pss_one (ps_set (i := 2) sc_law_wider.nd rfl (by first | exact Or.inl rfl | exact Or.inr rfl) (pe_op op_addU (pe_op op_addU (pe_op op_addU (pe_slice (sl_UK (K := K) rfl) (pv 2) po_none (po_some (pv 4))) (pv 5)) (pe_call (ok_law_inverse_step T) (hr.mono (by decide)) (by rfl) T.g_law_inverse_step T.f_law_inverse_step.kp T.b_law_inverse_step .nil pass0 (pa_cons (pv 5) pa_nil))) (pe_slice (sl_UK (K := K) rfl) (pv 2) (po_some (pv 4)) po_none)))))))
      (pss_one (ps_ret (pv 2))))), ?_⟩
    dsimp only [L2.cxOf, L2.Cx.nox, L2.Cx.wish, L2.start, List.map, List.length_cons, List.length_nil, Nat.reduceAdd, Nat.reduceSub, List.replicate, List.cons_append, List.nil_append, nm_law_wider]
    walk_at "hx go"
    refine ⟨p, 13, rfl, hp, by decide, by decide, fun n H1 hn b1 f1 P1 => ?_⟩
    walk_at "hx go"
    refine g_srcR (j := (n : Int)) (by omega) ?_
    refine for_it walk_range (fun i σ H2 => ∃ (m : List Nat) (v3 v4 v5 : Option V), σ = [some (.ref p), some (.str (S l)), some (.str (S m)), v3, v4, v5] ∧ IsP m ∧ Fr l m ∧ m.length = l.length + 2 * i ∧ But p H H2 ∧ PoolAt H2 p) ⟨l, _, _, _, rfl, hl, .refl _, rfl, b1, P1⟩ (fun _ _ _ _ _ => trivial) ?_ ?_
    · rintro i x σ H2 H3 hi ⟨m, v3, v4, v5, rfl, hm, fr, em, b2, P2⟩ ⟨rfl, rfl⟩
      walk_at "hx go"
      refine g_lenS (by rw [S_len, sizeLine_eq]; omega) ?_
      rw [S_len]
      walk_at "hx go"
      refine ⟨p, _, rfl, P2, by omega, by omega, fun d H4 hd b4 f4 P4 => ?_⟩
      walk_at "hx go"
      refine ⟨p, 8, rfl, P4, by decide, by decide, fun k H5 hk b5 f5 P5 => ?_⟩
      obtain ⟨c, hc, ec⟩ := step_at (d := k) (by omega)
      refine g_ixS (n := c) (by decide +kernel) (by rw [stepsS, S_cps]; exact atI_nat ec) ?_
      walk_at "hx go"
      refine g_slS (by rw [S_len, sizeLine_eq]; omega) ?_
      rw [cut_to]
      walk_at "hx go"
      rw [show (⟨#[c]⟩ : Str) = S [c] from rfl]
      refine g_addS (by rw [S_len, S_len, List.length_take, sizeLine_eq]; show _ + 1 ≤ _; omega) ?_
      rw [S_app]
      walk_at "hx go"
      refine ⟨c, rfl, hc, ?_⟩
      refine g_addS (by rw [S_len, S_len, List.length_append, List.length_take, sizeLine_eq]; show _ + 1 + 1 ≤ _; omega) ?_
      rw [S_app]
      walk_at "hx go"
      refine g_slS (by rw [S_len, sizeLine_eq]; omega) ?_
      rw [cut_from]
      refine g_addS (by rw [S_len, S_len, List.length_append, List.length_append, List.length_take, List.length_drop, sizeLine_eq]; show _ + 1 + 1 + _ ≤ _; omega) ?_
      rw [S_app]
      have e : m.take d ++ [c] ++ [sw c] ++ m.drop d = m.take d ++ c :: sw c :: m.drop d := by simp
      rw [e]
      walk_at "hx go"
      refine ⟨_, _, _, _, rfl, ?_, fr.trans (Fr.wide m d c), ?_, (b2.trans b4).trans b5, P5⟩
      · intro x hx
        rcases List.mem_append.mp hx with h | h
        · exact hm x (List.mem_of_mem_take h)
        · rcases List.mem_cons.mp h with h | h
          · rw [h]; exact hc
          · rcases List.mem_cons.mp h with h | h
            · rw [h]; exact sw_step c hc
            · exact hm x (List.mem_of_mem_drop h)
      · rw [List.length_append, List.length_cons, List.length_cons, List.length_take, List.length_drop]
        omega
    · rintro σ H2 ⟨m, v3, v4, v5, rfl, hm, fr, em, b2, P2⟩
      walk_at "hx go"
      exact q m H2 hm fr (by omega) b2 P2

theorem sc_law_path : FnScope ["_law_pool_here", "_law_most", "_law_letters", "_law_turn"] ["_law_pool_here", "_law_most", "_law_letters"] (defScope s_law_path) := ⟨rfl, rfl, rfl, by decide +kernel, rfl, by decide +kernel, by decide +kernel⟩
def nm_law_path : List Str := ["_law_pool_here", "_law_most", "_law_letters", "_law_turn"]
def sp_law_path (K : PySem.W.Frag) : Sp := fun vs H Q _ => ∃ (p : Addr) (most letters : Nat), vs = [.ref p, .int (most : Nat), .int (letters : Nat)] ∧ PoolAt H p ∧ most ≤ 1000 ∧ 1 ≤ letters ∧ letters ≤ 4 ∧
  ∀ (l : List Nat) H', IsP l → l.length ≤ most → But p H H' → PoolAt H' p → Q (.str (S l)) H'
theorem ok_law_path (T : Txt K mg A) : FnOk P w K mg base CX0 2 A.a_law_path A.d_law_path ["_law_pool_here", "_law_most", "_law_letters"] (sp_law_path K) := by
  refine T.f_law_path.ok sc_law_path (fun vs H Q E h => ?_) (fun cdv A_ outer s H vs Q E hr h => ?_)
  · first | (obtain ⟨_, rfl, _⟩ := h; rfl) | (obtain ⟨_, _, rfl, _⟩ := h; rfl) | (obtain ⟨_, _, _, rfl, _⟩ := h; rfl) | (obtain ⟨_, _, _, _, rfl, _⟩ := h; rfl) | (obtain ⟨_, _, _, _, _, rfl, _⟩ := h; rfl) | (obtain ⟨_, _, _, _, _, _, rfl, _⟩ := h; rfl) | (obtain ⟨rfl, _⟩ := h; rfl)
  · obtain ⟨p, most, letters, rfl, hP, hm, hl1, hl4, q⟩ := h
    refine ⟨_, (pss_one (ps_ret (pe_m1 PySem.F.slot_str_join PySem.F.type_str_join (mt_joinK (K := K) rfl) pe_str (pe_lc (own := [("_law_turn", 3)]) (g := (gName 3)) (tt := tYes) rfl sc_law_path.nd (pi_range1 (by rfl) T.z_range (pa_cons (pe_call (ok_law_take T) (hr.mono (by decide)) (by rfl) T.g_law_take T.f_law_take.kp T.b_law_take .nil pass0 (pa_cons (pv 0) (pa_cons (pe_op op_addU (pv 1) pe_int) pa_nil))) pa_nil)) (blkOk_by (N := nm_law_path) (sc := defScope s_law_path) (by decide +kernel)) (fun _ _ _ _ _ => (pg_name (i := 3) sc_law_path.nd rfl (by first | exact Or.inl rfl | exact Or.inr rfl))) (fun _ _ _ _ _ => pts_nil) (fun _ _ _ _ _ => (pe_ix (ix_seqK (K := K) rfl) pe_str (pe_call (ok_law_take T) (hr.mono (by decide)) (by rfl) T.g_law_take T.f_law_take.kp T.b_law_take .nil pass0 (pa_cons (pv 0) (pa_cons (pe_op op_mulU pe_int (pv 2)) pa_nil))) (fun _ _ => rfl))))))), ?_⟩
    dsimp only [L2.cxOf, L2.Cx.nox, L2.Cx.wish, L2.start, List.map, List.length_cons, List.length_nil, Nat.reduceAdd, Nat.reduceSub, List.replicate, List.cons_append, List.nil_append, nm_law_path]
    walk_at "hx go"
    refine ⟨p, _, rfl, hP, by omega, by omega, fun d H1 hd b1 f1 P1 => ?_⟩
    walk_at "hx go"
    refine g_srcR (j := (d : Int)) (by omega) ?_
    intro D nD
    have neD : D ≠ p := fun e => by obtain ⟨_, _, _, _, _, e2⟩ := P1; rw [e, e2] at nD; cases nD
    refine lc_it walk_range (fun i H2 => ∃ l : List Nat, l.length = i ∧ IsP l ∧ H2 D = some (.lst ((l.map sg).map V.str)) ∧ But p H H2 ∧ PoolAt H2 p) ?_ ?_ ?_ ?_
    · obtain ⟨x, y, h1, h2, h3, h4⟩ := P1
      exact ⟨[], rfl, IsP.nil, upd_same, But.new b1 nD, ⟨x, y, h1, h2, h3, u_old nD h4⟩⟩
    · intro i H2 _ _; trivial
    · rintro i x H2 H3 hi ⟨l, el, hl, hD, b2, P2⟩ ⟨rfl, rfl⟩
      walk_at "hx go"
      refine ⟨rfl, ?_⟩
      walk_at "hx go"
      refine g_mulI (.inl ⟨by decide, by decide⟩) ?_
      walk_at "hx go"
      refine ⟨p, _, rfl, P2, by omega, by omega, fun j H4 hj b4 f4 P4 => ?_⟩
      walk_at "hx go"
      obtain ⟨c, hc, ec⟩ := step_at (d := j) (by omega)
      refine g_ixS (n := c) (by decide +kernel) (by rw [stepsS, S_cps]; exact atI_nat ec) ?_
      have hD4 := b4 D _ neD hD
      refine ⟨_, hD4, by rw [List.length_map, List.length_map, sizeLine_eq]; omega, l ++ [c], by simp [el], hl.app (.one hc), ?_, ?_, ?_⟩
      · rw [upd_same]; simp [sg_S, sg]
      · exact But.mut (b2.trans b4) (by
          cases e : H D with
          | none => rfl
          | some o => rw [b1 D o neD e] at nD; cases nD)
      · obtain ⟨x, y, h1, h2, h3, h4⟩ := P4
        exact ⟨x, y, h1, h2, h3, u_oth neD.symm h4⟩
    · rintro H2 ⟨l, el, hl, hD, b2, P2⟩
      rw [Int.toNat_natCast] at el
      have hz : ((l.map sg).map (·.length)).sum = l.length := by
        rw [List.map_map]
        clear el hl hD
        induction l with
        | nil => rfl
        | cons c r ih => rw [List.map_cons, List.sum_cons, ih]; simp [sg, S_len]; omega
      refine g_joinK (l := l.map sg) (sq_of hD) ?_ ?_
      · rw [hz]; simp only [List.length_map]; rw [show (Str.ofString "").length = 0 from by decide +kernel]; omega
      · rw [join_sg]
        exact q l H2 hl (by omega) b2 P2

theorem sc_law_pool : FnScope ["_law_script", "_law_k", "_law_cell", "_law_number", "_law_mixed"] ["_law_script", "_law_k"] (defScope s_law_pool) := ⟨rfl, rfl, rfl, by decide +kernel, rfl, by decide +kernel, by decide +kernel⟩
def nm_law_pool : List Str := ["_law_script", "_law_k", "_law_cell", "_law_number", "_law_mixed"]
def sp_law_pool (K : PySem.W.Frag) : Sp := fun vs H Q _ => ∃ (a : Addr) (ns : List Int) (k : Nat), vs = [.ref a, .int (k : Nat)] ∧ SqL K H a (ns.map V.int) ∧ ns.length ≤ 63 ∧ k ≤ 63 ∧
  ∀ p H', Same H H' → H p = none → PoolAt H' p → Q (.ref p) H'
theorem ok_law_pool (T : Txt K mg A) : FnOk P w K mg base CX0 1 A.a_law_pool A.d_law_pool ["_law_script", "_law_k"] (sp_law_pool K) := by
  refine T.f_law_pool.ok sc_law_pool (fun vs H Q E h => ?_) (fun cdv A_ outer s H vs Q E hr h => ?_)
  · first | (obtain ⟨_, rfl, _⟩ := h; rfl) | (obtain ⟨_, _, rfl, _⟩ := h; rfl) | (obtain ⟨_, _, _, rfl, _⟩ := h; rfl) | (obtain ⟨_, _, _, _, rfl, _⟩ := h; rfl) | (obtain ⟨_, _, _, _, _, rfl, _⟩ := h; rfl) | (obtain ⟨_, _, _, _, _, _, rfl, _⟩ := h; rfl) | (obtain ⟨rfl, _⟩ := h; rfl)
  · obtain ⟨a, ns, k, rfl, hS, hl, hk, q⟩ := h
    refine ⟨_, (pss_cons (ps_set (i := 2) sc_law_pool.nd rfl (by first | exact Or.inl rfl | exact Or.inr rfl) (pe_ix (ix_seqK (K := K) rfl) (pe_op op_addU (pe_slice (sl_UK (K := K) rfl) (pv 0) (po_some (pv 1)) (po_some (pe_op op_addU (pv 1) pe_int))) (pe_lst (pa_cons pe_int pa_nil))) pe_int (fun _ _ => rfl)))
      (pss_cons (ps_set (i := 3) sc_law_pool.nd rfl (by first | exact Or.inl rfl | exact Or.inr rfl) (pe_callB (call_maxUK (K := K) rfl rfl) (by rfl) T.z_max PyProof.Rows.boot_max (pa_cons (pv 2) (pa_cons (pe_op op_sub (pe_un un_neg pe_int) (pv 2)) pa_nil))))
      (pss_cons (ps_set (i := 4) sc_law_pool.nd rfl (by first | exact Or.inl rfl | exact Or.inr rfl) (pe_op op_mod (pe_op op_mulU (pe_op op_addU (pe_op op_addU (pe_op op_addU (pe_op op_mod (pv 3) pe_int) (pe_op op_mulU (pe_op op_mulU pe_int (pv 1)) (pv 1))) (pe_op op_mulU pe_int (pv 1))) pe_int) pe_int) pe_int))
      (pss_one (ps_ret (pe_lst (pa_cons (pe_op op_mulU (pv 3) (pe_callTy call_int1U (by rfl) T.z_int (by decide +kernel) (pa_cons (pe_cmpR op_ge (pv 3) (pe_op op_pow pe_int pe_int) rfl) pa_nil))) (pa_cons (pe_op op_mod (pe_op op_mulU (pv 4) (pv 4)) pe_int) pa_nil)))))))), ?_⟩
    dsimp only [L2.cxOf, L2.Cx.nox, L2.Cx.wish, L2.start, List.map, List.length_cons, List.length_nil, Nat.reduceAdd, Nat.reduceSub, List.replicate, List.cons_append, List.nil_append, nm_law_pool]
    walk_at "hx go"
    refine g_slL hS fun p1 n1 => ?_
    obtain ⟨ms, hms, ems⟩ := cut_ints ns (some (k : Nat)) (some ((k : Nat) + 1))
    rw [ems]
    walk_at "hx go"
    refine g_sz (by decide) fun p2 n2 => ?_
    walk_at "hx go"
    refine g_addL (by walk_at "hx hp") (by walk_at "hx hp") (by rw [List.length_map, sizeLine_eq]; show ms.length + 1 ≤ _; omega) fun p3 n3 => ?_
    walk_at "hx go"
    obtain ⟨c, hc⟩ := at0 ms
    refine g_ixL (by walk_at "hx sq") hc ?_
    walk_at "hx go"
    have hn : 0 ≤ max c (-1 - c) := by omega
    generalize max c (-1 - c) = n at *
    refine g_mod (by decide) ?_
    walk_at "hx go"
    refine g_mulI (.inl ⟨by decide, by decide⟩) ?_
    walk_at "hx go"
    refine g_mulI (.inr ⟨by omega, by omega⟩) ?_
    walk_at "hx go"
    refine g_mulI (.inl ⟨by decide, by decide⟩) ?_
    walk_at "hx go"
    refine g_mulI (.inr ⟨by decide, by decide⟩) ?_
    walk_at "hx go"
    refine g_mod (by decide) ?_
    have hm0 := Int.emod_nonneg ((n % 2147483629 + 7919 * (k : Int) * (k : Int) + 31 * (k : Int) + 17) * 48271) (show (2147483647 : Int) ≠ 0 by decide)
    have hm1 := Int.emod_lt_of_pos ((n % 2147483629 + 7919 * (k : Int) * (k : Int) + 31 * (k : Int) + 17) * 48271) (show (0 : Int) < 2147483647 by decide)
    generalize ((n % 2147483629 + 7919 * (k : Int) * (k : Int) + 31 * (k : Int) + 17) * 48271) % 2147483647 = m at *
    walk_at "hx go"
    refine g_pow ⟨by decide, by decide, by decide⟩ ?_
    walk_at "hx go"
    obtain ⟨b1, b2⟩ := b01 (decide ((10 : Int) ^ (18 : Int).toNat ≤ n))
    generalize (if decide ((10 : Int) ^ (18 : Int).toNat ≤ n) = true then (1 : Int) else 0) = b at *
    refine g_mulI (.inr ⟨by omega, by omega⟩) ?_
    walk_at "hx go"
    refine g_mulI (.inl ⟨by omega, by omega⟩) ?_
    walk_at "hx go"
    refine g_mod (by decide) ?_
    walk_at "hx go"
    refine g_sz (by simp) fun p4 n4 => ?_
    refine q p4 _ (by walk_at "hx same") (by walk_at "hx free") ⟨_, _, Int.mul_nonneg hn b1, Int.emod_nonneg _ (by decide), by have := Int.emod_lt_of_pos (m * m) (show (0 : Int) < 2147483629 by decide); omega, upd_same⟩

theorem sc_law : FnScope ["_law_script", "_law_k", "_law_pool_here", "_law_path_here", "_law_padded", "_law_due"] ["_law_script"] (defScope s_law) := ⟨rfl, rfl, rfl, by decide +kernel, rfl, by decide +kernel, by decide +kernel⟩
def nm_law : List Str := ["_law_script", "_law_k", "_law_pool_here", "_law_path_here", "_law_padded", "_law_due"]
def sp_law (K : PySem.W.Frag) : Sp := fun vs H Q _ => ∃ (a : Addr) (ns : List Int), vs = [.ref a] ∧ SqL K H a (ns.map V.int) ∧ ns.length ≤ 63 ∧ ∀ H', Q (.bl true) H'
theorem ok_law (T : Txt K mg A) : FnOk P w K mg base CX0 5 A.a_law A.d_law ["_law_script"] (sp_law K) := by
  refine T.f_law.ok sc_law (fun vs H Q E h => ?_) (fun cdv A_ outer s H vs Q E hr h => ?_)
  · first | (obtain ⟨_, rfl, _⟩ := h; rfl) | (obtain ⟨_, _, rfl, _⟩ := h; rfl) | (obtain ⟨_, _, _, rfl, _⟩ := h; rfl) | (obtain ⟨_, _, _, _, rfl, _⟩ := h; rfl) | (obtain ⟨_, _, _, _, _, rfl, _⟩ := h; rfl) | (obtain ⟨_, _, _, _, _, _, rfl, _⟩ := h; rfl) | (obtain ⟨rfl, _⟩ := h; rfl)
  · obtain ⟨a, ns, rfl, hS, hn, q⟩ := h
    refine ⟨_, (pss_cons (ps_for PassesOwn.never rfl (pi_range1 (by rfl) T.z_range (pa_cons (pe_callB (call_maxUK (K := K) rfl rfl) (by rfl) T.z_max PyProof.Rows.boot_max (pa_cons pe_int (pa_cons (pe_callB (call_minUK (K := K) rfl rfl) (by rfl) T.z_min (by decide +kernel) (pa_cons pe_int (pa_cons (pe_callB (call_lenUK (K := K) rfl) (by rfl) T.z_len PySem.boot_len (pa_cons (pv 0) pa_nil)) pa_nil))) pa_nil))) pa_nil)) (pg_name (i := 1) sc_law.nd rfl (by first | exact Or.inl rfl | exact Or.inr rfl)) (pss_cons (ps_set (i := 2) sc_law.nd rfl (by first | exact Or.inl rfl | exact Or.inr rfl) (pe_call (ok_law_pool T) (hr.mono (by decide)) (by rfl) T.g_law_pool T.f_law_pool.kp T.b_law_pool .nil pass0 (pa_cons (pv 0) (pa_cons (pv 1) pa_nil))))
      (pss_cons (ps_set (i := 3) sc_law.nd rfl (by first | exact Or.inl rfl | exact Or.inr rfl) (pe_call (ok_law_path T) (hr.mono (by decide)) (by rfl) T.g_law_path T.f_law_path.kp T.b_law_path .nil pass0 (pa_cons (pv 2) (pa_cons pe_int (pa_cons (pe_op op_addU pe_int (pe_call (ok_law_take T) (hr.mono (by decide)) (by rfl) T.g_law_take T.f_law_take.kp T.b_law_take .nil pass0 (pa_cons (pv 2) (pa_cons pe_int pa_nil)))) pa_nil)))))
      (pss_cons (ps_set (i := 4) sc_law.nd rfl (by first | exact Or.inl rfl | exact Or.inr rfl) (pe_call (ok_law_wider T) (hr.mono (by decide)) (by rfl) T.g_law_wider T.f_law_wider.kp T.b_law_wider .nil pass0 (pa_cons (pv 2) (pa_cons (pv 3) pa_nil))))
      (pss_cons (ps_set (i := 5) sc_law.nd rfl (by first | exact Or.inl rfl | exact Or.inr rfl) (pe_call (ok_law_reduced T) (hr.mono (by decide)) (by rfl) T.g_law_reduced T.f_law_reduced.kp T.b_law_reduced .nil pass0 (pa_cons (pv 3) pa_nil)))
      (pss_one (ps_if (PW.pt (pw_or (pt_not (pt_val (pe_call (ok_law_right T) (hr.mono (by decide)) (by rfl) T.g_law_right T.f_law_right.kp T.b_law_right .nil pass0 (pa_cons (pv 2) (pa_cons (pv 3) (pa_cons (pv 5) pa_nil)))))) (pw_or1 (pt_not (pt_val (pe_call (ok_law_right T) (hr.mono (by decide)) (by rfl) T.g_law_right T.f_law_right.kp T.b_law_right .nil pass0 (pa_cons (pv 2) (pa_cons (pv 4) (pa_cons (pv 5) pa_nil))))))))) (pss_one (ps_ret pe_bl)) pss_nil)))))))
      (pss_one (ps_ret pe_bl))), ?_⟩
    dsimp only [L2.cxOf, L2.Cx.nox, L2.Cx.wish, L2.start, List.map, List.length_cons, List.length_nil, Nat.reduceAdd, Nat.reduceSub, List.replicate, List.cons_append, List.nil_append, nm_law]
    walk_at "hx go"
    refine g_lenL hS ?_
    rw [List.length_map]
    walk_at "hx go"
    refine g_srcR (j := max 1 (min 20 (ns.length : Int))) (by omega) ?_
    refine for_it walk_range (fun i σ H2 => (∃ v1 v2 v3 v4 v5, σ = [some (.ref a), v1, v2, v3, v4, v5]) ∧ Same H H2) ⟨⟨_, _, _, _, _, rfl⟩, Same.refl H⟩ (fun _ _ _ _ _ => trivial) ?_ ?_
    · rintro i x σ H2 H3 hi ⟨⟨v1, v2, v3, v4, v5, rfl⟩, e2⟩ ⟨rfl, rfl⟩
      simp only [Int.zero_add]
      walk_at "hx go"
      refine ⟨a, ns, i, rfl, e2.seq hS, hn, by omega, fun p H4 e4 np P4 => ?_⟩
      walk_at "hx go"
      refine ⟨p, 4, rfl, P4, by decide, by decide, fun d H5 hd b5 f5 P5 => ?_⟩
      walk_at "hx go"
      refine ⟨p, 60, 1 + d, rfl, P5, by decide, by omega, by omega, fun l H6 hl hl6 b6 P6 => ?_⟩
      walk_at "hx go"
      refine ⟨p, l, rfl, P6, hl, by omega, fun m H7 hm fr hm7 b7 P7 => ?_⟩
      walk_at "hx go"
      refine ⟨l, rfl, hl, by omega, ?_⟩
      walk_at "hx go"
      refine ⟨p, l, rfl, P7, hl, by omega, fun H8 b8 P8 => ?_⟩
      walk_at "hx go"
      rw [fr.red]
      refine ⟨p, m, rfl, P8, hm, by omega, fun H9 b9 P9 => ?_⟩
      walk_at "hx go"
      exact ⟨⟨_, _, _, _, _, rfl⟩, e2.trans (((((b5.trans b6).trans b7).trans b8).trans b9).same e4 np)⟩
    · rintro σ H2 ⟨⟨v1, v2, v3, v4, v5, rfl⟩, e2⟩
      walk_at "hx go"
      exact q H2

end
theorem all_mk {l : PySem.W.OpenLaw} {w : World} {K : PySem.W.Frag} {h : Heap} {mg : Str → Option Value} {fa : Addr} (X : K.In h) (G : h.Ns mainGlobals mg) (hfa : mg "law" = some (.ref fa))
    {f_reduce_all f_is_path f_require_path f_is_reduced f_reduced f_inverted f_inverse f_law_inverse_step f_law_inverse f_law_pairs f_law_take f_law_struck f_law_right f_law_reduced f_law_wider f_law_path f_law_pool f_law : Addr}
    {od_reduce_all an_reduce_all od_is_path an_is_path od_require_path an_require_path od_is_reduced an_is_reduced od_reduced an_reduced od_inverted an_inverted od_inverse an_inverse od_law_inverse_step an_law_inverse_step od_law_inverse an_law_inverse od_law_pairs an_law_pairs od_law_take an_law_take od_law_struck an_law_struck od_law_right an_law_right od_law_reduced an_law_reduced od_law_wider an_law_wider od_law_path an_law_path od_law_pool an_law_pool od_law an_law : Option Addr}
    {sl_reduce_all sl_is_path sl_require_path sl_is_reduced sl_reduced sl_inverted sl_inverse sl_law_inverse_step sl_law_inverse sl_law_pairs sl_law_take sl_law_struck sl_law_right sl_law_reduced sl_law_wider sl_law_path sl_law_pool sl_law : Array (Option Value)}
    {oc_reduce_all kV_reduce_all dc_reduce_all pm_reduce_all cd_reduce_all ct_reduce_all oc_is_path kV_is_path dc_is_path pm_is_path cd_is_path ct_is_path oc_require_path kV_require_path dc_require_path pm_require_path cd_require_path ct_require_path oc_is_reduced kV_is_reduced dc_is_reduced pm_is_reduced cd_is_reduced ct_is_reduced oc_reduced kV_reduced dc_reduced pm_reduced cd_reduced ct_reduced oc_inverted kV_inverted dc_inverted pm_inverted cd_inverted ct_inverted oc_inverse kV_inverse dc_inverse pm_inverse cd_inverse ct_inverse oc_law_inverse_step kV_law_inverse_step dc_law_inverse_step pm_law_inverse_step cd_law_inverse_step ct_law_inverse_step oc_law_inverse kV_law_inverse dc_law_inverse pm_law_inverse cd_law_inverse ct_law_inverse oc_law_pairs kV_law_pairs dc_law_pairs pm_law_pairs cd_law_pairs ct_law_pairs oc_law_take kV_law_take dc_law_take pm_law_take cd_law_take ct_law_take oc_law_struck kV_law_struck dc_law_struck pm_law_struck cd_law_struck ct_law_struck oc_law_right kV_law_right dc_law_right pm_law_right cd_law_right ct_law_right oc_law_reduced kV_law_reduced dc_law_reduced pm_law_reduced cd_law_reduced ct_law_reduced oc_law_wider kV_law_wider dc_law_wider pm_law_wider cd_law_wider ct_law_wider oc_law_path kV_law_path dc_law_path pm_law_path cd_law_path ct_law_path oc_law_pool kV_law_pool dc_law_pool pm_law_pool cd_law_pool ct_law_pool oc_law kV_law dc_law pm_law cd_law ct_law : Value}
    {t_MAX_STEPS : Tok}
    {t_STEPS : Tok}
    (a_reduce_all : PySem.W.nsIn K mainGlobals "reduce_all" = some (some (.ref f_reduce_all)))
    (l_reduce_all : K.lookup f_reduce_all = some ⟨oc_reduce_all, od_reduce_all, .func (PySem.W.fnOf "reduce_all" "reduce_all" (defArgs s_reduce_all) (defBody s_reduce_all) (defScope s_reduce_all) .none kV_reduce_all dc_reduce_all pm_reduce_all an_reduce_all cd_reduce_all ct_reduce_all), sl_reduce_all⟩)
    (c_reduce_all : PySem.W.codeIn K cd_reduce_all "reduce_all" = true)
    (k_reduce_all : PySem.W.keepIn K (.ref f_reduce_all) = true)
    (a_is_path : PySem.W.nsIn K mainGlobals "is_path" = some (some (.ref f_is_path)))
    (l_is_path : K.lookup f_is_path = some ⟨oc_is_path, od_is_path, .func (PySem.W.fnOf "is_path" "is_path" (defArgs s_is_path) (defBody s_is_path) (defScope s_is_path) .none kV_is_path dc_is_path pm_is_path an_is_path cd_is_path ct_is_path), sl_is_path⟩)
    (c_is_path : PySem.W.codeIn K cd_is_path "is_path" = true)
    (k_is_path : PySem.W.keepIn K (.ref f_is_path) = true)
    (a_require_path : PySem.W.nsIn K mainGlobals "require_path" = some (some (.ref f_require_path)))
    (l_require_path : K.lookup f_require_path = some ⟨oc_require_path, od_require_path, .func (PySem.W.fnOf "require_path" "require_path" (defArgs s_require_path) (defBody s_require_path) (defScope s_require_path) .none kV_require_path dc_require_path pm_require_path an_require_path cd_require_path ct_require_path), sl_require_path⟩)
    (c_require_path : PySem.W.codeIn K cd_require_path "require_path" = true)
    (k_require_path : PySem.W.keepIn K (.ref f_require_path) = true)
    (a_is_reduced : PySem.W.nsIn K mainGlobals "is_reduced" = some (some (.ref f_is_reduced)))
    (l_is_reduced : K.lookup f_is_reduced = some ⟨oc_is_reduced, od_is_reduced, .func (PySem.W.fnOf "is_reduced" "is_reduced" (defArgs s_is_reduced) (defBody s_is_reduced) (defScope s_is_reduced) .none kV_is_reduced dc_is_reduced pm_is_reduced an_is_reduced cd_is_reduced ct_is_reduced), sl_is_reduced⟩)
    (c_is_reduced : PySem.W.codeIn K cd_is_reduced "is_reduced" = true)
    (k_is_reduced : PySem.W.keepIn K (.ref f_is_reduced) = true)
    (a_reduced : PySem.W.nsIn K mainGlobals "reduced" = some (some (.ref f_reduced)))
    (l_reduced : K.lookup f_reduced = some ⟨oc_reduced, od_reduced, .func (PySem.W.fnOf "reduced" "reduced" (defArgs s_reduced) (defBody s_reduced) (defScope s_reduced) .none kV_reduced dc_reduced pm_reduced an_reduced cd_reduced ct_reduced), sl_reduced⟩)
    (c_reduced : PySem.W.codeIn K cd_reduced "reduced" = true)
    (k_reduced : PySem.W.keepIn K (.ref f_reduced) = true)
    (a_inverted : PySem.W.nsIn K mainGlobals "inverted" = some (some (.ref f_inverted)))
    (l_inverted : K.lookup f_inverted = some ⟨oc_inverted, od_inverted, .func (PySem.W.fnOf "inverted" "inverted" (defArgs s_inverted) (defBody s_inverted) (defScope s_inverted) .none kV_inverted dc_inverted pm_inverted an_inverted cd_inverted ct_inverted), sl_inverted⟩)
    (c_inverted : PySem.W.codeIn K cd_inverted "inverted" = true)
    (k_inverted : PySem.W.keepIn K (.ref f_inverted) = true)
    (a_inverse : PySem.W.nsIn K mainGlobals "inverse" = some (some (.ref f_inverse)))
    (l_inverse : K.lookup f_inverse = some ⟨oc_inverse, od_inverse, .func (PySem.W.fnOf "inverse" "inverse" (defArgs s_inverse) (defBody s_inverse) (defScope s_inverse) .none kV_inverse dc_inverse pm_inverse an_inverse cd_inverse ct_inverse), sl_inverse⟩)
    (c_inverse : PySem.W.codeIn K cd_inverse "inverse" = true)
    (k_inverse : PySem.W.keepIn K (.ref f_inverse) = true)
    (a_law_inverse_step : PySem.W.nsIn K mainGlobals "_law_inverse_step" = some (some (.ref f_law_inverse_step)))
    (l_law_inverse_step : K.lookup f_law_inverse_step = some ⟨oc_law_inverse_step, od_law_inverse_step, .func (PySem.W.fnOf "_law_inverse_step" "_law_inverse_step" (defArgs s_law_inverse_step) (defBody s_law_inverse_step) (defScope s_law_inverse_step) .none kV_law_inverse_step dc_law_inverse_step pm_law_inverse_step an_law_inverse_step cd_law_inverse_step ct_law_inverse_step), sl_law_inverse_step⟩)
    (c_law_inverse_step : PySem.W.codeIn K cd_law_inverse_step "_law_inverse_step" = true)
    (k_law_inverse_step : PySem.W.keepIn K (.ref f_law_inverse_step) = true)
    (a_law_inverse : PySem.W.nsIn K mainGlobals "_law_inverse" = some (some (.ref f_law_inverse)))
    (l_law_inverse : K.lookup f_law_inverse = some ⟨oc_law_inverse, od_law_inverse, .func (PySem.W.fnOf "_law_inverse" "_law_inverse" (defArgs s_law_inverse) (defBody s_law_inverse) (defScope s_law_inverse) .none kV_law_inverse dc_law_inverse pm_law_inverse an_law_inverse cd_law_inverse ct_law_inverse), sl_law_inverse⟩)
    (c_law_inverse : PySem.W.codeIn K cd_law_inverse "_law_inverse" = true)
    (k_law_inverse : PySem.W.keepIn K (.ref f_law_inverse) = true)
    (a_law_pairs : PySem.W.nsIn K mainGlobals "_law_pairs" = some (some (.ref f_law_pairs)))
    (l_law_pairs : K.lookup f_law_pairs = some ⟨oc_law_pairs, od_law_pairs, .func (PySem.W.fnOf "_law_pairs" "_law_pairs" (defArgs s_law_pairs) (defBody s_law_pairs) (defScope s_law_pairs) .none kV_law_pairs dc_law_pairs pm_law_pairs an_law_pairs cd_law_pairs ct_law_pairs), sl_law_pairs⟩)
    (c_law_pairs : PySem.W.codeIn K cd_law_pairs "_law_pairs" = true)
    (k_law_pairs : PySem.W.keepIn K (.ref f_law_pairs) = true)
    (a_law_take : PySem.W.nsIn K mainGlobals "_law_take" = some (some (.ref f_law_take)))
    (l_law_take : K.lookup f_law_take = some ⟨oc_law_take, od_law_take, .func (PySem.W.fnOf "_law_take" "_law_take" (defArgs s_law_take) (defBody s_law_take) (defScope s_law_take) .none kV_law_take dc_law_take pm_law_take an_law_take cd_law_take ct_law_take), sl_law_take⟩)
    (c_law_take : PySem.W.codeIn K cd_law_take "_law_take" = true)
    (k_law_take : PySem.W.keepIn K (.ref f_law_take) = true)
    (a_law_struck : PySem.W.nsIn K mainGlobals "_law_struck" = some (some (.ref f_law_struck)))
    (l_law_struck : K.lookup f_law_struck = some ⟨oc_law_struck, od_law_struck, .func (PySem.W.fnOf "_law_struck" "_law_struck" (defArgs s_law_struck) (defBody s_law_struck) (defScope s_law_struck) .none kV_law_struck dc_law_struck pm_law_struck an_law_struck cd_law_struck ct_law_struck), sl_law_struck⟩)
    (c_law_struck : PySem.W.codeIn K cd_law_struck "_law_struck" = true)
    (k_law_struck : PySem.W.keepIn K (.ref f_law_struck) = true)
    (a_law_right : PySem.W.nsIn K mainGlobals "_law_right" = some (some (.ref f_law_right)))
    (l_law_right : K.lookup f_law_right = some ⟨oc_law_right, od_law_right, .func (PySem.W.fnOf "_law_right" "_law_right" (defArgs s_law_right) (defBody s_law_right) (defScope s_law_right) .none kV_law_right dc_law_right pm_law_right an_law_right cd_law_right ct_law_right), sl_law_right⟩)
    (c_law_right : PySem.W.codeIn K cd_law_right "_law_right" = true)
    (k_law_right : PySem.W.keepIn K (.ref f_law_right) = true)
    (a_law_reduced : PySem.W.nsIn K mainGlobals "_law_reduced" = some (some (.ref f_law_reduced)))
    (l_law_reduced : K.lookup f_law_reduced = some ⟨oc_law_reduced, od_law_reduced, .func (PySem.W.fnOf "_law_reduced" "_law_reduced" (defArgs s_law_reduced) (defBody s_law_reduced) (defScope s_law_reduced) .none kV_law_reduced dc_law_reduced pm_law_reduced an_law_reduced cd_law_reduced ct_law_reduced), sl_law_reduced⟩)
    (c_law_reduced : PySem.W.codeIn K cd_law_reduced "_law_reduced" = true)
    (k_law_reduced : PySem.W.keepIn K (.ref f_law_reduced) = true)
    (a_law_wider : PySem.W.nsIn K mainGlobals "_law_wider" = some (some (.ref f_law_wider)))
    (l_law_wider : K.lookup f_law_wider = some ⟨oc_law_wider, od_law_wider, .func (PySem.W.fnOf "_law_wider" "_law_wider" (defArgs s_law_wider) (defBody s_law_wider) (defScope s_law_wider) .none kV_law_wider dc_law_wider pm_law_wider an_law_wider cd_law_wider ct_law_wider), sl_law_wider⟩)
    (c_law_wider : PySem.W.codeIn K cd_law_wider "_law_wider" = true)
    (k_law_wider : PySem.W.keepIn K (.ref f_law_wider) = true)
    (a_law_path : PySem.W.nsIn K mainGlobals "_law_path" = some (some (.ref f_law_path)))
    (l_law_path : K.lookup f_law_path = some ⟨oc_law_path, od_law_path, .func (PySem.W.fnOf "_law_path" "_law_path" (defArgs s_law_path) (defBody s_law_path) (defScope s_law_path) .none kV_law_path dc_law_path pm_law_path an_law_path cd_law_path ct_law_path), sl_law_path⟩)
    (c_law_path : PySem.W.codeIn K cd_law_path "_law_path" = true)
    (k_law_path : PySem.W.keepIn K (.ref f_law_path) = true)
    (a_law_pool : PySem.W.nsIn K mainGlobals "_law_pool" = some (some (.ref f_law_pool)))
    (l_law_pool : K.lookup f_law_pool = some ⟨oc_law_pool, od_law_pool, .func (PySem.W.fnOf "_law_pool" "_law_pool" (defArgs s_law_pool) (defBody s_law_pool) (defScope s_law_pool) .none kV_law_pool dc_law_pool pm_law_pool an_law_pool cd_law_pool ct_law_pool), sl_law_pool⟩)
    (c_law_pool : PySem.W.codeIn K cd_law_pool "_law_pool" = true)
    (k_law_pool : PySem.W.keepIn K (.ref f_law_pool) = true)
    (a_law : PySem.W.nsIn K mainGlobals "law" = some (some (.ref f_law)))
    (l_law : K.lookup f_law = some ⟨oc_law, od_law, .func (PySem.W.fnOf "law" "law" (defArgs s_law) (defBody s_law) (defScope s_law) .none kV_law dc_law pm_law an_law cd_law ct_law), sl_law⟩)
    (c_law : PySem.W.codeIn K cd_law "law" = true)
    (k_law : PySem.W.keepIn K (.ref f_law) = true)
    (n_MAX_STEPS : PySem.W.nsIn K mainGlobals "MAX_STEPS" = some (some (.int 400 t_MAX_STEPS)))
    (n_STEPS : PySem.W.nsIn K mainGlobals "STEPS" = some (some (.str "aAbBcCdD" t_STEPS)))
    (z_all : PySem.W.nsIn K mainGlobals "all" = some none)
    (z_int : PySem.W.nsIn K mainGlobals "int" = some none)
    (z_isinstance : PySem.W.nsIn K mainGlobals "isinstance" = some none)
    (z_len : PySem.W.nsIn K mainGlobals "len" = some none)
    (z_max : PySem.W.nsIn K mainGlobals "max" = some none)
    (z_min : PySem.W.nsIn K mainGlobals "min" = some none)
    (z_range : PySem.W.nsIn K mainGlobals "range" = some none)
    (z_repr : PySem.W.nsIn K mainGlobals "repr" = some none)
    (z_str : PySem.W.nsIn K mainGlobals "str" = some none) :
    ∃ fd : FuncData, (∀ (s : Shared) (v : Value), BindsTo s fd ⟨[v], []⟩ [("_law_script", v)]) ∧ ∀ base : Heap, K.In base → base.Ns mainGlobals mg → FnOk l.prog w K mg base CX0 5 fa fd ["_law_script"] (sp_law K) := by
  have e := hfa.symm.trans (PySem.W.mg_of X G a_law)
  cases e
  have T : Txt K mg ⟨f_reduce_all, PySem.W.fnOf "reduce_all" "reduce_all" (defArgs s_reduce_all) (defBody s_reduce_all) (defScope s_reduce_all) .none kV_reduce_all dc_reduce_all pm_reduce_all an_reduce_all cd_reduce_all ct_reduce_all, f_is_path, PySem.W.fnOf "is_path" "is_path" (defArgs s_is_path) (defBody s_is_path) (defScope s_is_path) .none kV_is_path dc_is_path pm_is_path an_is_path cd_is_path ct_is_path, f_require_path, PySem.W.fnOf "require_path" "require_path" (defArgs s_require_path) (defBody s_require_path) (defScope s_require_path) .none kV_require_path dc_require_path pm_require_path an_require_path cd_require_path ct_require_path, f_is_reduced, PySem.W.fnOf "is_reduced" "is_reduced" (defArgs s_is_reduced) (defBody s_is_reduced) (defScope s_is_reduced) .none kV_is_reduced dc_is_reduced pm_is_reduced an_is_reduced cd_is_reduced ct_is_reduced, f_reduced, PySem.W.fnOf "reduced" "reduced" (defArgs s_reduced) (defBody s_reduced) (defScope s_reduced) .none kV_reduced dc_reduced pm_reduced an_reduced cd_reduced ct_reduced, f_inverted, PySem.W.fnOf "inverted" "inverted" (defArgs s_inverted) (defBody s_inverted) (defScope s_inverted) .none kV_inverted dc_inverted pm_inverted an_inverted cd_inverted ct_inverted, f_inverse, PySem.W.fnOf "inverse" "inverse" (defArgs s_inverse) (defBody s_inverse) (defScope s_inverse) .none kV_inverse dc_inverse pm_inverse an_inverse cd_inverse ct_inverse, f_law_inverse_step, PySem.W.fnOf "_law_inverse_step" "_law_inverse_step" (defArgs s_law_inverse_step) (defBody s_law_inverse_step) (defScope s_law_inverse_step) .none kV_law_inverse_step dc_law_inverse_step pm_law_inverse_step an_law_inverse_step cd_law_inverse_step ct_law_inverse_step, f_law_inverse, PySem.W.fnOf "_law_inverse" "_law_inverse" (defArgs s_law_inverse) (defBody s_law_inverse) (defScope s_law_inverse) .none kV_law_inverse dc_law_inverse pm_law_inverse an_law_inverse cd_law_inverse ct_law_inverse, f_law_pairs, PySem.W.fnOf "_law_pairs" "_law_pairs" (defArgs s_law_pairs) (defBody s_law_pairs) (defScope s_law_pairs) .none kV_law_pairs dc_law_pairs pm_law_pairs an_law_pairs cd_law_pairs ct_law_pairs, f_law_take, PySem.W.fnOf "_law_take" "_law_take" (defArgs s_law_take) (defBody s_law_take) (defScope s_law_take) .none kV_law_take dc_law_take pm_law_take an_law_take cd_law_take ct_law_take, f_law_struck, PySem.W.fnOf "_law_struck" "_law_struck" (defArgs s_law_struck) (defBody s_law_struck) (defScope s_law_struck) .none kV_law_struck dc_law_struck pm_law_struck an_law_struck cd_law_struck ct_law_struck, f_law_right, PySem.W.fnOf "_law_right" "_law_right" (defArgs s_law_right) (defBody s_law_right) (defScope s_law_right) .none kV_law_right dc_law_right pm_law_right an_law_right cd_law_right ct_law_right, f_law_reduced, PySem.W.fnOf "_law_reduced" "_law_reduced" (defArgs s_law_reduced) (defBody s_law_reduced) (defScope s_law_reduced) .none kV_law_reduced dc_law_reduced pm_law_reduced an_law_reduced cd_law_reduced ct_law_reduced, f_law_wider, PySem.W.fnOf "_law_wider" "_law_wider" (defArgs s_law_wider) (defBody s_law_wider) (defScope s_law_wider) .none kV_law_wider dc_law_wider pm_law_wider an_law_wider cd_law_wider ct_law_wider, f_law_path, PySem.W.fnOf "_law_path" "_law_path" (defArgs s_law_path) (defBody s_law_path) (defScope s_law_path) .none kV_law_path dc_law_path pm_law_path an_law_path cd_law_path ct_law_path, f_law_pool, PySem.W.fnOf "_law_pool" "_law_pool" (defArgs s_law_pool) (defBody s_law_pool) (defScope s_law_pool) .none kV_law_pool dc_law_pool pm_law_pool an_law_pool cd_law_pool ct_law_pool, fa, PySem.W.fnOf "law" "law" (defArgs s_law) (defBody s_law) (defScope s_law) .none kV_law dc_law pm_law an_law cd_law ct_law⟩ := {
    f_reduce_all := fun_mk (st := s_reduce_all) l_reduce_all c_reduce_all k_reduce_all
    g_reduce_all := PySem.W.mg_of X G a_reduce_all
    b_reduce_all := (fun_mk (st := s_reduce_all) l_reduce_all c_reduce_all k_reduce_all).binds (ps := ["parts"]) fun _ _ _ _ _ _ us hl => match us, hl with | [_], _ => rfl
    f_is_path := fun_mk (st := s_is_path) l_is_path c_is_path k_is_path
    g_is_path := PySem.W.mg_of X G a_is_path
    b_is_path := (fun_mk (st := s_is_path) l_is_path c_is_path k_is_path).binds (ps := ["value"]) fun _ _ _ _ _ _ us hl => match us, hl with | [_], _ => rfl
    f_require_path := fun_mk (st := s_require_path) l_require_path c_require_path k_require_path
    g_require_path := PySem.W.mg_of X G a_require_path
    b_require_path := (fun_mk (st := s_require_path) l_require_path c_require_path k_require_path).binds (ps := ["value"]) fun _ _ _ _ _ _ us hl => match us, hl with | [_], _ => rfl
    f_is_reduced := fun_mk (st := s_is_reduced) l_is_reduced c_is_reduced k_is_reduced
    g_is_reduced := PySem.W.mg_of X G a_is_reduced
    b_is_reduced := (fun_mk (st := s_is_reduced) l_is_reduced c_is_reduced k_is_reduced).binds (ps := ["path"]) fun _ _ _ _ _ _ us hl => match us, hl with | [_], _ => rfl
    f_reduced := fun_mk (st := s_reduced) l_reduced c_reduced k_reduced
    g_reduced := PySem.W.mg_of X G a_reduced
    b_reduced := (fun_mk (st := s_reduced) l_reduced c_reduced k_reduced).binds (ps := ["path"]) fun _ _ _ _ _ _ us hl => match us, hl with | [_], _ => rfl
    f_inverted := fun_mk (st := s_inverted) l_inverted c_inverted k_inverted
    g_inverted := PySem.W.mg_of X G a_inverted
    b_inverted := (fun_mk (st := s_inverted) l_inverted c_inverted k_inverted).binds (ps := ["steps"]) fun _ _ _ _ _ _ us hl => match us, hl with | [_], _ => rfl
    f_inverse := fun_mk (st := s_inverse) l_inverse c_inverse k_inverse
    g_inverse := PySem.W.mg_of X G a_inverse
    b_inverse := (fun_mk (st := s_inverse) l_inverse c_inverse k_inverse).binds (ps := ["path"]) fun _ _ _ _ _ _ us hl => match us, hl with | [_], _ => rfl
    f_law_inverse_step := fun_mk (st := s_law_inverse_step) l_law_inverse_step c_law_inverse_step k_law_inverse_step
    g_law_inverse_step := PySem.W.mg_of X G a_law_inverse_step
    b_law_inverse_step := (fun_mk (st := s_law_inverse_step) l_law_inverse_step c_law_inverse_step k_law_inverse_step).binds (ps := ["_law_step"]) fun _ _ _ _ _ _ us hl => match us, hl with | [_], _ => rfl
    f_law_inverse := fun_mk (st := s_law_inverse) l_law_inverse c_law_inverse k_law_inverse
    g_law_inverse := PySem.W.mg_of X G a_law_inverse
    b_law_inverse := (fun_mk (st := s_law_inverse) l_law_inverse c_law_inverse k_law_inverse).binds (ps := ["_law_path_here"]) fun _ _ _ _ _ _ us hl => match us, hl with | [_], _ => rfl
    f_law_pairs := fun_mk (st := s_law_pairs) l_law_pairs c_law_pairs k_law_pairs
    g_law_pairs := PySem.W.mg_of X G a_law_pairs
    b_law_pairs := (fun_mk (st := s_law_pairs) l_law_pairs c_law_pairs k_law_pairs).binds (ps := ["_law_path_here"]) fun _ _ _ _ _ _ us hl => match us, hl with | [_], _ => rfl
    f_law_take := fun_mk (st := s_law_take) l_law_take c_law_take k_law_take
    g_law_take := PySem.W.mg_of X G a_law_take
    b_law_take := (fun_mk (st := s_law_take) l_law_take c_law_take k_law_take).binds (ps := ["_law_pool_here", "_law_many"]) fun _ _ _ _ _ _ us hl => match us, hl with | [_, _], _ => rfl
    f_law_struck := fun_mk (st := s_law_struck) l_law_struck c_law_struck k_law_struck
    g_law_struck := PySem.W.mg_of X G a_law_struck
    b_law_struck := (fun_mk (st := s_law_struck) l_law_struck c_law_struck k_law_struck).binds (ps := ["_law_pool_here", "_law_path_here"]) fun _ _ _ _ _ _ us hl => match us, hl with | [_, _], _ => rfl
    f_law_right := fun_mk (st := s_law_right) l_law_right c_law_right k_law_right
    g_law_right := PySem.W.mg_of X G a_law_right
    b_law_right := (fun_mk (st := s_law_right) l_law_right c_law_right k_law_right).binds (ps := ["_law_pool_here", "_law_path_here", "_law_due"]) fun _ _ _ _ _ _ us hl => match us, hl with | [_, _, _], _ => rfl
    f_law_reduced := fun_mk (st := s_law_reduced) l_law_reduced c_law_reduced k_law_reduced
    g_law_reduced := PySem.W.mg_of X G a_law_reduced
    b_law_reduced := (fun_mk (st := s_law_reduced) l_law_reduced c_law_reduced k_law_reduced).binds (ps := ["_law_path_here"]) fun _ _ _ _ _ _ us hl => match us, hl with | [_], _ => rfl
    f_law_wider := fun_mk (st := s_law_wider) l_law_wider c_law_wider k_law_wider
    g_law_wider := PySem.W.mg_of X G a_law_wider
    b_law_wider := (fun_mk (st := s_law_wider) l_law_wider c_law_wider k_law_wider).binds (ps := ["_law_pool_here", "_law_path_here"]) fun _ _ _ _ _ _ us hl => match us, hl with | [_, _], _ => rfl
    f_law_path := fun_mk (st := s_law_path) l_law_path c_law_path k_law_path
    g_law_path := PySem.W.mg_of X G a_law_path
    b_law_path := (fun_mk (st := s_law_path) l_law_path c_law_path k_law_path).binds (ps := ["_law_pool_here", "_law_most", "_law_letters"]) fun _ _ _ _ _ _ us hl => match us, hl with | [_, _, _], _ => rfl
    f_law_pool := fun_mk (st := s_law_pool) l_law_pool c_law_pool k_law_pool
    g_law_pool := PySem.W.mg_of X G a_law_pool
    b_law_pool := (fun_mk (st := s_law_pool) l_law_pool c_law_pool k_law_pool).binds (ps := ["_law_script", "_law_k"]) fun _ _ _ _ _ _ us hl => match us, hl with | [_, _], _ => rfl
    f_law := fun_mk (st := s_law) l_law c_law k_law
    g_law := PySem.W.mg_of X G a_law
    b_law := (fun_mk (st := s_law) l_law c_law k_law).binds (ps := ["_law_script"]) fun _ _ _ _ _ _ us hl => match us, hl with | [_], _ => rfl
    c_MAX_STEPS := ⟨_, PySem.W.mg_of X G n_MAX_STEPS⟩
    c_STEPS := ⟨_, PySem.W.mg_of X G n_STEPS⟩
    z_all := PySem.W.mg_none_of X G z_all
    z_int := PySem.W.mg_none_of X G z_int
    z_isinstance := PySem.W.mg_none_of X G z_isinstance
    z_len := PySem.W.mg_none_of X G z_len
    z_max := PySem.W.mg_none_of X G z_max
    z_min := PySem.W.mg_none_of X G z_min
    z_range := PySem.W.mg_none_of X G z_range
    z_repr := PySem.W.mg_none_of X G z_repr
    z_str := PySem.W.mg_none_of X G z_str }
  exact ⟨_, fun s v => .of_eq rfl, fun base _ _ => ok_law T⟩
end Pf
open PySem PySem.W PyProof.Rows
set_option maxRecDepth 100000 in
set_option maxHeartbeats 0 in
theorem PySem.Challenge.cw_walkshome_k02_whole_reduction_is_conflue_holds : PySem.Challenge.rw_walkshome_k02_whole_reduction_is_conflue.Holds := by
  w_on; o_law; k_head; (case hw => w_witness2)
  k_fill
  refine L2.walk_of (l := PySem.Challenge.rw_walkshome_k02_whole_reduction_is_conflue) (n := 63) (k := 5) (x := "_law_script") (CX := fun _ => L2.CX0) (sp := fun w => Pf.sp_law _) rfl (by decide) rfl ⟨rfl, by decide, by decide⟩ (fun w h Y => PySem.W.kIn_of Y) ?F (fun _ _ a ns hl _ hS => ⟨a, ns, rfl, hS, hl, fun _ => rfl⟩) (fun _ _ _ _ _ h => h)
  case F =>
    intro w mg fa h KX G hmg
    refine' Pf.all_mk KX G hmg ?a_reduce_all ?l_reduce_all ?c_reduce_all ?k_reduce_all ?a_is_path ?l_is_path ?c_is_path ?k_is_path ?a_require_path ?l_require_path ?c_require_path ?k_require_path ?a_is_reduced ?l_is_reduced ?c_is_reduced ?k_is_reduced ?a_reduced ?l_reduced ?c_reduced ?k_reduced ?a_inverted ?l_inverted ?c_inverted ?k_inverted ?a_inverse ?l_inverse ?c_inverse ?k_inverse ?a_law_inverse_step ?l_law_inverse_step ?c_law_inverse_step ?k_law_inverse_step ?a_law_inverse ?l_law_inverse ?c_law_inverse ?k_law_inverse ?a_law_pairs ?l_law_pairs ?c_law_pairs ?k_law_pairs ?a_law_take ?l_law_take ?c_law_take ?k_law_take ?a_law_struck ?l_law_struck ?c_law_struck ?k_law_struck ?a_law_right ?l_law_right ?c_law_right ?k_law_right ?a_law_reduced ?l_law_reduced ?c_law_reduced ?k_law_reduced ?a_law_wider ?l_law_wider ?c_law_wider ?k_law_wider ?a_law_path ?l_law_path ?c_law_path ?k_law_path ?a_law_pool ?l_law_pool ?c_law_pool ?k_law_pool ?a_law ?l_law ?c_law ?k_law ?n_MAX_STEPS ?n_STEPS ?z_all ?z_int ?z_isinstance ?z_len ?z_max ?z_min ?z_range ?z_repr ?z_str
    (case a_reduce_all => k_is)
    (case l_reduce_all => k_is)
    (case c_reduce_all => k_is)
    (case k_reduce_all => k_is)
    (case a_is_path => k_is)
    (case l_is_path => k_is)
    (case c_is_path => k_is)
    (case k_is_path => k_is)
    (case a_require_path => k_is)
    (case l_require_path => k_is)
    (case c_require_path => k_is)
    (case k_require_path => k_is)
    (case a_is_reduced => k_is)
    (case l_is_reduced => k_is)
    (case c_is_reduced => k_is)
    (case k_is_reduced => k_is)
    (case a_reduced => k_is)
    (case l_reduced => k_is)
    (case c_reduced => k_is)
    (case k_reduced => k_is)
    (case a_inverted => k_is)
    (case l_inverted => k_is)
    (case c_inverted => k_is)
    (case k_inverted => k_is)
    (case a_inverse => k_is)
    (case l_inverse => k_is)
    (case c_inverse => k_is)
    (case k_inverse => k_is)
    (case a_law_inverse_step => k_is)
    (case l_law_inverse_step => k_is)
    (case c_law_inverse_step => k_is)
    (case k_law_inverse_step => k_is)
    (case a_law_inverse => k_is)
    (case l_law_inverse => k_is)
    (case c_law_inverse => k_is)
    (case k_law_inverse => k_is)
    (case a_law_pairs => k_is)
    (case l_law_pairs => k_is)
    (case c_law_pairs => k_is)
    (case k_law_pairs => k_is)
    (case a_law_take => k_is)
    (case l_law_take => k_is)
    (case c_law_take => k_is)
    (case k_law_take => k_is)
    (case a_law_struck => k_is)
    (case l_law_struck => k_is)
    (case c_law_struck => k_is)
    (case k_law_struck => k_is)
    (case a_law_right => k_is)
    (case l_law_right => k_is)
    (case c_law_right => k_is)
    (case k_law_right => k_is)
    (case a_law_reduced => k_is)
    (case l_law_reduced => k_is)
    (case c_law_reduced => k_is)
    (case k_law_reduced => k_is)
    (case a_law_wider => k_is)
    (case l_law_wider => k_is)
    (case c_law_wider => k_is)
    (case k_law_wider => k_is)
    (case a_law_path => k_is)
    (case l_law_path => k_is)
    (case c_law_path => k_is)
    (case k_law_path => k_is)
    (case a_law_pool => k_is)
    (case l_law_pool => k_is)
    (case c_law_pool => k_is)
    (case k_law_pool => k_is)
    (case a_law => k_is)
    (case l_law => k_is)
    (case c_law => k_is)
    (case k_law => k_is)
    (case n_MAX_STEPS => k_is)
    (case n_STEPS => k_is)
    (case z_all => k_is)
    (case z_int => k_is)
    (case z_isinstance => k_is)
    (case z_len => k_is)
    (case z_max => k_is)
    (case z_min => k_is)
    (case z_range => k_is)
    (case z_repr => k_is)
    (case z_str => k_is)
#print axioms PySem.Challenge.cw_walkshome_k02_whole_reduction_is_conflue_holds
