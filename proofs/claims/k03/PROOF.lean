import PyProof.Rows.All
import Wide.All
import OpenK.AllK
import Wide.FinOn
import HandS.ForMost
import HandS.ForExc
import HandS.Walk
import HandS.IsInst
import HandS.StrMore
import HandS.Flow
import HandS.Style
import HandS.RaiseMore
import HandS.TupLe
import HandS.Deep
import HandS.Replace
import KE.LtData
import PySem.Challenge.RW_walkshome_k03_path_order
set_option Elab.async false
set_option linter.all false
set_option maxRecDepth 100000
set_option maxHeartbeats 4000000
namespace Hx
open PySem PySem.Spec PyProof.Rows L2
/-! ## heaps -/
section
variable {H H1 H2 : Hp} {a p : Addr} {o u : HO} {K : PySem.W.Frag} {xs : List V}
theorem u_old (np : H p = none) (h : H a = some o) : upd H p u a = some o := by rw [upd_ne (ne_of_none h np)]; exact h
theorem u_oth (ne : a ≠ p) (h : H a = some o) : upd H p u a = some o := by rw [upd_ne ne]; exact h
theorem u_oth' (ne : p ≠ a) (h : H a = some o) : upd H p u a = some o := u_oth ne.symm h
theorem s_new (e : Same H H1) (np : H1 p = none) : Same H (upd H1 p u) := fun b x q => u_old np (e b x q)
theorem s_mut (e : Same H H1) (np : H p = none) : Same H (upd H1 p u) := fun b x q => by rw [upd_ne (ne_of_none q np)]; exact e b x q
theorem sq_of (h : H a = some (.lst xs)) : SqL K H a xs := .inl (.inl h)
theorem st_of (h : H a = some (.tup xs)) : SqT K H a xs := .inl (.inl h)
theorem sq_same (e : Same H H1) (h : SqL K H a xs) : SqL K H1 a xs := e.seq h
theorem sq_old (np : H p = none) (h : SqL K H a xs) : SqL K (upd H p u) a xs := (s_new (Same.refl H) np).seq h
theorem sq_oth (ne : a ≠ p) (h : SqL K H a xs) : SqL K (upd H p u) a xs := by
  rcases h with (h | ⟨o, h⟩) | h
  · exact .inl (.inl (u_oth ne h))
  · exact .inl (.inr ⟨o, u_oth ne h⟩)
  · exact .inr h
theorem f_same (e : Same H H1) (h : H1 p = none) : H p = none := e.free h
theorem f_upd (h : upd H p u a = none) : H a = none := by
  by_cases e : a = p
  · subst e; rw [upd_same] at h; cases h
  · rw [upd_ne e] at h; exact h
theorem n_upd (h : upd H p u a = none) : a ≠ p := fun e => by subst e; rw [upd_same] at h; cases h
theorem f_u2 {p2 : Addr} {u2 : HO} (h : upd (upd H p u) p2 u2 a = none) : H a = none := f_upd (f_upd h)
theorem f_u3 {p2 p3 : Addr} {u2 u3 : HO} (h : upd (upd (upd H p u) p2 u2) p3 u3 a = none) : H a = none := f_upd (f_u2 h)
theorem f_u4 {p2 p3 p4 : Addr} {u2 u3 u4 : HO} (h : upd (upd (upd (upd H p u) p2 u2) p3 u3) p4 u4 a = none) : H a = none := f_upd (f_u3 h)
theorem f_u5 {p2 p3 p4 p5 : Addr} {u2 u3 u4 u5 : HO} (h : upd (upd (upd (upd (upd H p u) p2 u2) p3 u3) p4 u4) p5 u5 a = none) : H a = none := f_upd (f_u4 h)
theorem f_u6 {p2 p3 p4 p5 p6 : Addr} {u2 u3 u4 u5 u6 : HO} (h : upd (upd (upd (upd (upd (upd H p u) p2 u2) p3 u3) p4 u4) p5 u5) p6 u6 a = none) : H a = none := f_upd (f_u5 h)
theorem n_u2 {p2 : Addr} {u2 : HO} (h : upd (upd H p u) p2 u2 a = none) : a ≠ p := fun e => by subst e; have := f_upd h; rw [upd_same] at this; cases this
theorem n_u3 {p2 p3 : Addr} {u2 u3 : HO} (h : upd (upd (upd H p u) p2 u2) p3 u3 a = none) : a ≠ p := n_u2 (f_upd h)
theorem n_u4 {p2 p3 p4 : Addr} {u2 u3 u4 : HO} (h : upd (upd (upd (upd H p u) p2 u2) p3 u3) p4 u4 a = none) : a ≠ p := n_u3 (f_upd h)
theorem n_u5 {p2 p3 p4 p5 : Addr} {u2 u3 u4 u5 : HO} (h : upd (upd (upd (upd (upd H p u) p2 u2) p3 u3) p4 u4) p5 u5 a = none) : a ≠ p := n_u4 (f_upd h)
theorem n_at (h : H p = some o) (n : H a = none) : a ≠ p := fun e => by rw [e, h] at n; cases n
theorem f_new (ne : a ≠ p) (h : H a = none) : upd H p u a = none := by rw [upd_ne ne]; exact h
/-- all but p is kept -/
def But (p : Addr) (H H' : Hp) : Prop := ∀ b o, b ≠ p → H b = some o → H' b = some o
theorem But.refl (p : Addr) (H : Hp) : But p H H := fun _ _ _ h => h
theorem But.of (e : Same H H1) : But p H H1 := fun b o _ h => e b o h
theorem But.trans (e : But p H H1) (f : But p H1 H2) : But p H H2 := fun b o n h => f b o n (e b o n h)
theorem But.new {q : Addr} (e : But p H H1) (nq : H1 q = none) : But p H (upd H1 q u) := fun b o n h => u_old nq (e b o n h)
theorem But.mut {q : Addr} (e : But p H H1) (nq : H q = none) : But p H (upd H1 q u) := fun b o n h => by rw [upd_ne (ne_of_none h nq)]; exact e b o n h
theorem But.own (e : But p H H1) : But p H (upd H1 p u) := fun b o n h => by rw [upd_ne n]; exact e b o n h
theorem But.seq (e : But p H H1) (n : a ≠ p) (h : SqL K H a xs) : SqL K H1 a xs := by
  rcases h with (h | ⟨o, h⟩) | h
  · exact .inl (.inl (e _ _ n h))
  · exact .inl (.inr ⟨o, e _ _ n h⟩)
  · exact .inr h
/-- behind But p, what was p's is new: But p becomes Same where p is new -/
theorem But.same (e : But p H1 H2) (f : Same H H1) (np : H p = none) : Same H H2 := fun b o h => e b o (ne_of_none h np) (f b o h)
theorem But.free (e : But p H H1) {b : Addr} (n : b ≠ p) (h : H1 b = none) : H b = none := by
  cases q : H b with
  | none => rfl
  | some o => rw [e b o n q] at h; cases h
end
/-! ## readings -/
section
variable {σ : L2.St} {H : Hp} {Q : VK} {v x y z : V} {ta tb te tc : TE} {D : Ends} {t u : TS} {c d : TT} {K : PySem.W.Frag} {p a : Addr} {i j : Int} {k : Nat} {xs : List V} {B : Bool → Hp → Prop} {QA : List V → Hp → Prop} {r : R2}
theorem g_var (e : σ[k]? = some (some v)) (q : Q v H) : tVar k σ H Q := ⟨v, e, q⟩
theorem g_c (q : Q v H) : tC v σ H Q := q
theorem g_op (q : ta σ H fun x H1 => tb σ H1 fun y H2 => r x y H2 Q) : tOp r ta tb σ H Q := q
theorem g_un {r : V → Hp → VK → Prop} (q : ta σ H fun x H1 => r x H1 Q) : tUn r ta σ H Q := q
theorem g_seq (q : t { D with nx := u D } σ H) : tSeq t u D σ H := q
theorem g_next (q : D.nx σ H) : tNext D σ H := q
theorem g_brk (q : D.bk σ H) : tBreak D σ H := q
theorem g_cont (q : D.ct σ H) : tCont D σ H := q
theorem g_asg {g : TG} (q : te σ H fun x H1 => g x σ H1 D.nx) : tAsg te g D σ H := q
theorem g_name {Q : L2.St → Hp → Prop} (q : Q (σ.set k (some v)) H) : gName k v σ H Q := q
theorem g_drop (q : te σ H fun _ H1 => D.nx σ H1) : tDrop te D σ H := q
theorem g_ret (q : te σ H D.rt) : tRet te D σ H := q
theorem g_retN (q : D.rt .non H) : tRetN D σ H := q
theorem g_ifS (q : c σ H fun b H1 => if b = true then t D σ H1 else u D σ H1) : tIfS c t u D σ H := q
theorem g_if (q : c σ H fun b H1 => if b = true then ta σ H1 Q else tb σ H1 Q) : tIf c ta tb σ H Q := q
theorem g_test (q : te σ H fun x H' => ∃ k, x = .bl k ∧ B k H') : tTest te σ H B := q
theorem g_tB (q : te σ H fun x H' => ∃ k, x = .bl k ∧ B k H') : tB te σ H B := q
theorem g_exb {b : Bool} {P : Bool → Prop} (q : P b) : ∃ k, V.bl b = .bl k ∧ P k := ⟨b, rfl, q⟩
theorem g_and (q : c σ H fun b H1 => if b = true then d σ H1 B else B false H1) : tAnd c d σ H B := q
theorem g_or (q : c σ H fun b H1 => if b = true then B true H1 else d σ H1 B) : tOr c d σ H B := q
theorem g_not (q : c σ H fun b H1 => B (!b) H1) : tNot c σ H B := q
theorem g_andV (q : ta σ H fun x H1 => ∃ c, x = .bl c ∧ if c = true then tb σ H1 Q else Q (.bl false) H1) : tAndV ta tb σ H Q := q
theorem g_orV (q : ta σ H fun x H1 => ∃ c, x = .bl c ∧ if c = true then Q (.bl true) H1 else tb σ H1 Q) : tOrV ta tb σ H Q := q
theorem g_notV (q : ta σ H fun x H1 => ∃ c, x = .bl c ∧ Q (.bl (!c)) H1) : tNotV ta σ H Q := q
theorem g_nil (q : QA [] H) : tNil σ H QA := q
theorem g_cons {tr : TA} (q : ta σ H fun x H1 => tr σ H1 fun xs H2 => QA (x :: xs) H2) : tCons ta tr σ H QA := q
theorem g_tup {t : TA} (q : t σ H fun xs H1 => xs.length ≤ sizeLine ∧ ∀ p, H1 p = none → Q (.ref p) (upd H1 p (.tup xs))) : tTup t σ H Q := q
theorem g_lst {t : TA} (q : t σ H fun xs H1 => xs.length ≤ sizeLine ∧ ∀ p, H1 p = none → Q (.ref p) (upd H1 p (.lst xs))) : tLst t σ H Q := q
theorem g_sz {R : Prop} (h : xs.length ≤ 1000) (q : R) : xs.length ≤ sizeLine ∧ R := ⟨Nat.le_trans h (by decide), q⟩
theorem g_call {sp : Sp} {dvs : List V} {E : XK} {t : TA} (q : t σ H fun vs H1 => sp (vs ++ dvs) H1 Q E) : tCall sp dvs E t σ H Q := q
theorem g_callK {sp : Sp} {gV} {E : XK} {t tk : TA} (q : t σ H fun vs H1 => tk σ H1 fun zs H2 => sp (gV vs zs) H2 Q E) : tCallK sp gV E t tk σ H Q := q
theorem g_CB {r : List V → Hp → VK → Prop} {t : TA} (q : t σ H fun vs H1 => r vs H1 Q) : tCB r t σ H Q := q
theorem g_chain {r r' : R2} (q : ta σ H fun x H1 => tb σ H1 fun y H2 => r x y H2 fun z H3 => ∃ k, z = .bl k ∧ (if k = true then tc σ H3 fun w' H4 => r' y w' H4 Q else Q (.bl false) H3)) : tChain r r' ta tb tc σ H Q := q
theorem g_sl {r} {tl th : TO} (q : te σ H fun x H1 => tl σ H1 fun l H2 => th σ H2 fun u H3 => r x l u H3 Q) : tSl r te tl th σ H Q := q
theorem g_nopart {QO : Option Int → Hp → Prop} (q : QO none H) : tNoPart σ H QO := q
theorem g_part {QO : Option Int → Hp → Prop} (q : te σ H fun x H1 => ∃ i, x = .int i ∧ QO (some i) H1) : tPart te σ H QO := q
theorem g_exi {P : Int → Prop} (q : P i) : ∃ k, V.int i = .int k ∧ P k := ⟨i, rfl, q⟩
theorem g_bm {T : String} {r} {to : TE} {t : TA} (q : to σ H fun x H1 => tyV K T x H1 ∧ t σ H1 fun xs H2 => r x xs H2 Q) : tBM K T r to t σ H Q := q
theorem g_bm0 {T : String} {r} {to : TE} (q : to σ H fun x H1 => tyV K T x H1 ∧ r x [] H1 Q) : tBM0 K T r to σ H Q := q
theorem g_m0 {r} {to : TE} (q : to σ H fun x H1 => (∃ a, x = .str a) ∧ r x [] H1 Q) : tM0 r to σ H Q := q
theorem g_m1 {r} {to te : TE} (q : to σ H fun x H1 => (∃ a, x = .str a) ∧ te σ H1 fun y H2 => r x [y] H2 Q) : tM1 r to te σ H Q := q
theorem g_exs {s : Str} {R : Prop} (q : R) : (∃ a, V.str s = .str a) ∧ R := ⟨⟨s, rfl⟩, q⟩
theorem g_tyS {s : Str} {R : Prop} (q : R) : tyV K "str" (.str s) H ∧ R := ⟨rfl, q⟩
theorem g_tyL {R : Prop} (h : SqL K H p xs) (q : R) : tyV K "list" (.ref p) H ∧ R := ⟨Or.inl ⟨rfl, _, h⟩, q⟩
theorem g_fld {f : Str} (q : ta σ H fun x H1 => ∃ a C dx fs v, x = .ref a ∧ H1 a = some (.ins C dx fs) ∧ Cls K C ∧ NoAttr K C f ∧ fs.lookup f = some v ∧ Q v H1) : tFld K ta f σ H Q := q
theorem g_meth {C : Addr} {m : Str} {sp : Sp} {dvs : List V} {E : XK} {t : TA} (q : ta σ H fun x H1 => ∃ a dx fs, x = .ref a ∧ H1 a = some (.ins C dx fs) ∧ fs.lookup m = none ∧ t σ H1 fun vs H2 => sp (x :: (vs ++ dvs)) H2 Q E) : tMeth C m sp dvs E ta t σ H Q := q
theorem g_for {wi : TI} {g : TG} {tb : TS} (q : wi σ H fun J H1 => ∃ W : Nat → Nat → L2.St → Hp → Prop, (∃ m, W 0 m σ H1) ∧ ∀ i m σ H, W i m σ H →
      (J.stop i H ∧ D.nx σ H) ∨ (J.go i H ∧ ∃ N : L2.St → Hp → Prop, (∀ σ' H', N σ' H' → ∃ m', m' < m ∧ W (i + 1) m' σ' H') ∧ ∀ x H', J.yld i H x H' → g x σ H' fun σ2 H2 => tb { D with nx := N, ct := N, bk := D.nx } σ2 H2)) : tFor wi g tb D σ H := q
theorem g_lc {wi : TI} {g : TG} {tt : TT} {vs : List Nat} (q : wi σ H fun J H1 => ∀ D, H1 D = none → ∃ W : Nat → Nat → Hp → Prop, (∃ m, W 0 m (upd H1 D (.lst []))) ∧ ∀ i m H, W i m H →
  (J.stop i H ∧ Q (.ref D) H) ∨ (J.go i H ∧ ∃ Nx : Hp → Prop, (∀ H', Nx H' → ∃ m', m' < m ∧ W (i + 1) m' H') ∧ ∀ x H', J.yld i H x H' → g x (wipe σ vs) H' fun σ2 H2 => wipe σ2 vs = wipe σ vs ∧ tt σ2 H2 fun b H3 =>
    if b = true then te σ2 H3 fun y H4 => ∃ acc, H4 D = some (.lst acc) ∧ acc.length < sizeLine ∧ Nx (upd H4 D (.lst (acc ++ [y]))) else Nx H3)) : tLc wi g tt te vs σ H Q := q
theorem g_yes {P : Bool → Hp → Prop} (q : P true H) : tYes σ H P := q
theorem g_aug {ti : TIp} (e : σ[k]? = some (some x)) (q : te σ H fun y H1 => ti x y H1 fun z H2 => D.nx (σ.set k (some z)) H2) : tAug k te ti D σ H := ⟨x, e, q⟩
theorem g_ipI {f : Int → Int → Int} (q : Q (.int (f i j)) H) : ipI f (.int i) (.int j) H Q := ⟨i, j, rfl, rfl, q⟩
/-! sources -/
variable {R : It → Hp → Prop}
theorem g_iList (q : ta σ H fun x H1 => ∃ a, x = .ref a ∧ (∃ xs, SqL K H1 a xs) ∧ R (Itl K a) H1) : iList K ta σ H R := q
theorem g_srcL {P : Addr → Prop} (h : SqL K H a xs) (q : P a) : ∃ a', V.ref a = .ref a' ∧ (∃ xs, SqL K H a' xs) ∧ P a' := ⟨a, rfl, ⟨xs, h⟩, q⟩
theorem g_iStr (q : ta σ H fun v H1 => ∃ x, v = .str x ∧ R (Its x) H1) : iStr ta σ H R := q
theorem g_exstr {s : Str} {P : Str → Prop} (q : P s) : ∃ x, V.str s = .str x ∧ P x := ⟨s, rfl, q⟩
theorem g_iRng1 {t : TA} (q : t σ H fun vs H1 => ∃ j : Int, vs = [.int j] ∧ -(2 ^ 62) ≤ j ∧ j < 2 ^ 62 ∧ R (Itr 0 j.toNat) H1) : iRng1 t σ H R := q
theorem g_srcR {j : Int} {P : Int → Prop} (h : -1000000000 ≤ j ∧ j ≤ 1000000000) (q : P j) : ∃ j' : Int, [V.int j] = [.int j'] ∧ -(2 ^ 62) ≤ j' ∧ j' < 2 ^ 62 ∧ P j' := ⟨j, rfl, by omega, by omega, q⟩
/-! ## operators by values -/
theorem g_rI0 {g : Int → Int → V} (q : Q (g i j) H) : rI0 g (.int i) (.int j) H Q := ⟨i, j, rfl, rfl, q⟩
theorem g_rU {g : Int → V} (q : Q (g i) H) : rU g (.int i) H Q := ⟨i, rfl, q⟩
theorem g_rI {C : Int → Int → Prop} {g : Int → Int → V} (c : C i j) (q : Q (g i j) H) : rI C g (.int i) (.int j) H Q := ⟨i, j, rfl, rfl, c, q⟩
def rAddU : R2 := fun x y H Q => rI0 (fun i j => .int (i + j)) x y H Q ∨ ((∃ i j, x = .str i ∧ y = .str j ∧ i.length + j.length ≤ sizeLine ∧ Q (.str (i ++ j)) H) ∨ rCat x y H Q)
theorem op_addU {X : Cx} : OpR X (binaryOp .Add) rAddU := op_add.or (op_add_str.or op_cat)
theorem g_addI (q : Q (.int (i + j)) H) : rAddU (.int i) (.int j) H Q := .inl ⟨i, j, rfl, rfl, q⟩
theorem g_addS {a b : Str} (h : a.length + b.length ≤ sizeLine) (q : Q (.str (a ++ b)) H) : rAddU (.str a) (.str b) H Q := .inr (.inl ⟨a, b, rfl, rfl, h, q⟩)
theorem g_addL {l b : Addr} {xs zs : List V} (h1 : H l = some (.lst xs)) (h2 : H b = some (.lst zs)) (h : xs.length + zs.length ≤ sizeLine) (q : ∀ p, H p = none → Q (.ref p) (upd H p (.lst (xs ++ zs)))) : rAddU (.ref l) (.ref b) H Q :=
  .inr (.inr ⟨l, b, xs, zs, rfl, rfl, h1, h2, h, q⟩)
theorem g_mul (c : CMul i j) (q : Q (.int (i * j)) H) : rI CMul (fun i j => .int (i * j)) (.int i) (.int j) H Q := ⟨i, j, rfl, rfl, c, q⟩
theorem g_mod (c : 0 < j) (q : Q (.int (i % j)) H) : rI (fun _ j => 0 < j) (fun i j => .int (i % j)) (.int i) (.int j) H Q := ⟨i, j, rfl, rfl, c, q⟩
theorem g_div (c : CDiv i j) (q : Q (.int (i / j)) H) : rI CDiv (fun i j => .int (i / j)) (.int i) (.int j) H Q := ⟨i, j, rfl, rfl, c, q⟩
theorem g_pow (c : CPow i j) (q : Q (.int (i ^ j.toNat)) H) : rI CPow (fun i j => .int (i ^ j.toNat)) (.int i) (.int j) H Q := ⟨i, j, rfl, rfl, c, q⟩
theorem g_eqS (h : scal x y = true) (q : Q (.bl (decide (x = y))) H) : rEq x y H Q := ⟨h, q⟩
theorem g_neS (h : scal x y = true) (q : Q (.bl (!decide (x = y))) H) : rNe x y H Q := ⟨h, q⟩
/-! items: a list, a tuple, a text -/
theorem g_ixL (h : SqL K H p xs) (e : atI xs i = some v) (q : Q v H) : rIx K (.ref p) (.int i) H Q := .inl ⟨p, xs, i, v, rfl, rfl, h, e, q⟩
theorem g_ixT (h : SqT K H p xs) (e : atI xs i = some v) (q : Q v H) : rIx K (.ref p) (.int i) H Q := .inr (.inl ⟨p, xs, i, v, rfl, rfl, h, e, q⟩)
theorem g_ixS {s : Str} {n : Nat} (hl : s.length ≤ sizeLine) (e : atI s.cps.toList i = some n) (q : Q (.str ⟨#[n]⟩) H) : rIx K (.str s) (.int i) H Q := .inr (.inr ⟨s, i, n, rfl, rfl, hl, e, q⟩)
/-! slices: a list, a text -/
def rSlU (K : PySem.W.Frag) : V → Option Int → Option Int → Hp → VK → Prop := fun x lo hi H Q => rSlL K x lo hi H Q ∨ rSlS x lo hi H Q
theorem sl_U {X : Cx} : SlR X (rSlU X.K) := sl_list.or sl_str
theorem g_slL {lo hi : Option Int} (h : SqL K H a xs) (q : ∀ p, H p = none → Q (.ref p) (upd H p (.lst (cutV xs lo hi)))) : rSlU K (.ref a) lo hi H Q := .inl ⟨a, xs, rfl, h, q⟩
theorem g_slS {lo hi : Option Int} {z : Str} (h : z.length ≤ sizeLine) (q : Q (.str (cutS z lo hi)) H) : rSlU K (.str z) lo hi H Q := .inr ⟨z, rfl, h, q⟩
/-! tests -/
theorem g_yesD {P : Prop} [Decidable P] {A B : Prop} (h : P) (q : A) : if decide P = true then A else B := by rw [if_pos (decide_eq_true h)]; exact q
theorem g_noD {P : Prop} [Decidable P] {A B : Prop} (h : ¬P) (q : B) : if decide P = true then A else B := by rw [if_neg (by simp [h])]; exact q
theorem g_byD {P : Prop} [Decidable P] {A B : Prop} (h1 : P → A) (h2 : ¬P → B) : if decide P = true then A else B := by
  by_cases h : P
  · exact g_yesD h (h1 h)
  · exact g_noD h (h2 h)
theorem g_byN {P : Prop} [Decidable P] {A B : Prop} (h1 : ¬P → A) (h2 : P → B) : if (!decide P) = true then A else B := by
  by_cases h : P
  · rw [if_neg (by simp [h])]; exact h2 h
  · rw [if_pos (by simp [h])]; exact h1 h
theorem g_by {b : Bool} {A B : Prop} (h1 : b = true → A) (h2 : b = false → B) : if b = true then A else B := by
  cases b
  · exact iteF (h2 rfl)
  · exact iteT (h1 rfl)
end
end Hx
namespace Hx
open PySem PySem.Spec PyProof.Rows L2
/-! ## further rules -/
section
variable {X : Cx} {σ : L2.St} {H : Hp} {Q : VK} {K : PySem.W.Frag} {v x y : V} {p a b : Addr} {i j : Int} {xs ys : List V} {z : Str}
theorem pe_gS {n s : Str} {pos : Pos} (h : ∃ t, X.mg n = some (.str s t)) (hg : Gl X n := by rfl) (hd : (n == ("__debug__" : Str)) = false := by decide) : PE X (.Name n pos) (tC (.str s)) := by
  obtain ⟨t, h⟩ := h
  exact pe_glob hg h ⟨t, rfl⟩ hd
theorem pe_gI {n : Str} {i : Int} {pos : Pos} (h : ∃ t, X.mg n = some (.int i t)) (hg : Gl X n := by rfl) (hd : (n == ("__debug__" : Str)) = false := by decide) : PE X (.Name n pos) (tC (.int i)) := by
  obtain ⟨t, h⟩ := h
  exact pe_glob hg h ⟨t, rfl⟩ hd
/-! len -/
def rLenU (K : PySem.W.Frag) : List V → Hp → VK → Prop := fun xs H Q => ∃ x n, xs = [x] ∧ LenV K x H n ∧ Q (.int n) H
theorem call_lenU : CallR X (.builtin "len") (rLenU X.K) := call_len
theorem g_lenS (h : z.length ≤ sizeLine) (q : Q (.int (z.length : Nat)) H) : rLenU K [.str z] H Q := ⟨.str z, _, rfl, ⟨h, rfl⟩, q⟩
theorem g_lenL (h : SqL K H a xs) (q : Q (.int (xs.length : Nat)) H) : rLenU K [.ref a] H Q := ⟨.ref a, _, rfl, .inl ⟨_, h, rfl⟩, q⟩
theorem g_lenT (h : SqT K H a xs) (q : Q (.int (xs.length : Nat)) H) : rLenU K [.ref a] H Q := ⟨.ref a, _, rfl, .inr ⟨_, h, rfl⟩, q⟩
/-! max, min of two ints, all, any -/
def rMaxU (K : PySem.W.Frag) : List V → Hp → VK → Prop := fun xs H Q => (∃ i j, xs = [.int i, .int j] ∧ Q (.int (if j > i then j else i)) H) ∨ rMax K xs H Q
theorem call_maxU (hc : X.calm = true) : CallR X (.builtin "max") (rMaxU X.K) := (call_max2 hc).or (cr_max hc)
theorem g_max2 (q : Q (.int (max i j)) H) : rMaxU K [.int i, .int j] H Q := .inl ⟨i, j, rfl, by
  have e : (if j > i then j else i) = max i j := by split <;> omega
  rw [e]; exact q⟩
def rMinU (K : PySem.W.Frag) : List V → Hp → VK → Prop := fun xs H Q => (∃ i j, xs = [.int i, .int j] ∧ Q (.int (if j < i then j else i)) H) ∨ rMin K xs H Q
theorem call_minU (hc : X.calm = true) : CallR X (.builtin "min") (rMinU X.K) := (call_min2 hc).or (cr_min hc)
theorem g_min2 (q : Q (.int (min i j)) H) : rMinU K [.int i, .int j] H Q := .inl ⟨i, j, rfl, by
  have e : (if j < i then j else i) = min i j := by split <;> omega
  rw [e]; exact q⟩
def rInt1 : List V → Hp → VK → Prop := fun xs H Q => (∃ i, xs = [.int i] ∧ Q (.int i) H) ∨ ∃ k, xs = [.bl k] ∧ Q (.int (if k then 1 else 0)) H
theorem call_int1U : CallR X (.type "int") rInt1 := call_int1
theorem g_intB {k : Bool} (q : Q (.int (if k then 1 else 0)) H) : rInt1 [.bl k] H Q := .inr ⟨k, rfl, q⟩
theorem g_all {bs : List Bool} (h : SqL K H a (bs.map V.bl)) (q : Q (.bl (bs.all id)) H) : rAll K [.ref a] H Q := ⟨a, bs, rfl, h, q⟩
theorem g_any {bs : List Bool} (h : SqL K H a (bs.map V.bl)) (q : Q (.bl (bs.any id)) H) : rAny K [.ref a] H Q := ⟨a, bs, rfl, h, q⟩
/-! isinstance -/
theorem call_isiU : CallR X (.builtin "isinstance") (rIsi X.K) := call_isi
theorem g_isi {c : V} {t u : Value} {k : Bool} (hc : ClsV c u) (ht : TyX K H x t) (e : PySem.W.kitOne K t u = some k) (q : Q (.bl k) H) : rIsi K [x, c] H Q := ⟨x, c, t, u, k, rfl, hc, ht, e, q⟩
/-! repr of an int, a bool -/
def rReprU : List V → Hp → VK → Prop := fun xs H Q => (∃ i, xs = [.int i] ∧ i.natAbs.log2 < 1920 ∧ Q (.str (toString i)) H) ∨ ∃ k : Bool, xs = [.bl k] ∧ Q (.str (if k then "True" else "False")) H
theorem call_repr_bool : CallR X (.builtin "repr") (fun xs H Q => ∃ k : Bool, xs = [.bl k] ∧ Q (.str (if k then "True" else "False")) H) := by
  intro pins s σ H xs us Q I r h
  obtain ⟨k, rfl, q⟩ := h
  obtain ⟨u, rfl, ru⟩ := vals1 r
  cases (show u = Value.bool k from ru)
  exact PySem.P.repr_of_bool ⟨.str _, H, I.tok _, ⟨_, rfl⟩, q⟩
theorem call_reprU : CallR X (.builtin "repr") rReprU := SkE.call_repr_int.or call_repr_bool
theorem g_reprB {k : Bool} (q : Q (.str (if k then "True" else "False")) H) : rReprU [.bl k] H Q := .inr ⟨k, rfl, q⟩
/-! == and <, of any data -/
def rEqU (K : PySem.W.Frag) : R2 := fun x y H Q => rEq x y H Q ∨ rEqD K x y H Q
theorem op_eqU (hu : X.A.units + 64 < cLine) : OpR X (compareOp .Eq) (rEqU X.K) := op_eq.or (op_eqD hu)
def rNeU (K : PySem.W.Frag) : R2 := fun x y H Q => rNe x y H Q ∨ rNeD K x y H Q
theorem op_neU (hu : X.A.units + 64 < cLine) : OpR X (compareOp .NotEq) (rNeU X.K) := op_ne.or (op_neD hu)
theorem g_eqU (h : scal x y = true) (q : Q (.bl (decide (x = y))) H) : rEqU K x y H Q := .inl ⟨h, q⟩
theorem g_neU (h : scal x y = true) (q : Q (.bl (!decide (x = y))) H) : rNeU K x y H Q := .inl ⟨h, q⟩
theorem g_eqI (q : Q (.bl (decide (i = j))) H) : rEqU K (.int i) (.int j) H Q := .inl ⟨rfl, by rw [decide_eq_decide.mpr (show V.int i = V.int j ↔ i = j from ⟨V.int.inj, congrArg _⟩)]; exact q⟩
theorem g_neI (q : Q (.bl (!decide (i = j))) H) : rNeU K (.int i) (.int j) H Q := .inl ⟨rfl, by rw [decide_eq_decide.mpr (show V.int i = V.int j ↔ i = j from ⟨V.int.inj, congrArg _⟩)]; exact q⟩
theorem g_eqS2 {s z : Str} (q : Q (.bl (decide (s = z))) H) : rEqU K (.str s) (.str z) H Q := .inl ⟨rfl, by rw [decide_eq_decide.mpr (show V.str s = V.str z ↔ s = z from ⟨V.str.inj, congrArg _⟩)]; exact q⟩
theorem g_neS2 {s z : Str} (q : Q (.bl (!decide (s = z))) H) : rNeU K (.str s) (.str z) H Q := .inl ⟨rfl, by rw [decide_eq_decide.mpr (show V.str s = V.str z ↔ s = z from ⟨V.str.inj, congrArg _⟩)]; exact q⟩
theorem g_eqB {s z : Bool} (q : Q (.bl (decide (s = z))) H) : rEqU K (.bl s) (.bl z) H Q := .inl ⟨rfl, by rw [decide_eq_decide.mpr (show V.bl s = V.bl z ↔ s = z from ⟨V.bl.inj, congrArg _⟩)]; exact q⟩
theorem g_neB {s z : Bool} (q : Q (.bl (!decide (s = z))) H) : rNeU K (.bl s) (.bl z) H Q := .inl ⟨rfl, by rw [decide_eq_decide.mpr (show V.bl s = V.bl z ↔ s = z from ⟨V.bl.inj, congrArg _⟩)]; exact q⟩
theorem g_eqD {d e : PyData} (hd : Dp K H x d) (he : Dp K H y e) (sd : SeqAt.shaped d = true) (se : SeqAt.shaped e = true) (q : Q (.bl (PyData.eqv d e)) H) : rEqU K x y H Q := .inr ⟨d, e, hd, he, sd, se, q⟩
theorem g_neD {d e : PyData} (hd : Dp K H x d) (he : Dp K H y e) (sd : SeqAt.shaped d = true) (se : SeqAt.shaped e = true) (q : Q (.bl (!PyData.eqv d e)) H) : rNeU K x y H Q := .inr ⟨d, e, hd, he, sd, se, q⟩
def rLtD (K : PySem.W.Frag) : R2 := fun x y H Q => ∃ d e, Dp K H x d ∧ Dp K H y e ∧ PySem.W.alike d e = true ∧ d ≠ .none ∧ d.depth ≤ 60 ∧ Q (.bl (PySem.W.dataLt d e)) H
theorem op_ltD (hu : X.A.units + 64 < cLine) : OpR X (compareOp .Lt) (rLtD X.K) := by
  intro pins s σ H x y v u Q I rx ry h
  obtain ⟨d, e, hd, he, al, nn, dp, q⟩ := h
  obtain ⟨as, r1⟩ := Dp.reads I d x v hd rx
  obtain ⟨bs, r2⟩ := Dp.reads I e y u he ry
  exact PySem.W.rcLt_alike d e _ _ _ _ _ _ r1 r2 al nn (by omega) _ _ _ _ ⟨.bl _, H, I, rfl, q⟩
def rLtU (K : PySem.W.Frag) : R2 := fun x y H Q => rI0 (fun i j => .bl (decide (i < j))) x y H Q ∨ rLtD K x y H Q
theorem op_ltU (hu : X.A.units + 64 < cLine) : OpR X (compareOp .Lt) (rLtU X.K) := op_lt.or (op_ltD hu)
theorem g_ltI (q : Q (.bl (decide (i < j))) H) : rLtU K (.int i) (.int j) H Q := .inl ⟨i, j, rfl, rfl, q⟩
theorem g_ltD {d e : PyData} (hd : Dp K H x d) (he : Dp K H y e) (al : PySem.W.alike d e = true) (nn : d ≠ .none) (dp : d.depth ≤ 60) (q : Q (.bl (PySem.W.dataLt d e)) H) : rLtU K x y H Q := .inr ⟨d, e, hd, he, al, nn, dp, q⟩
/-! texts -/
theorem g_inS {c : Nat} {z : Str} (q : Q (.bl (decide (c ∈ z.cps.toList))) H) : (∃ (c' : Nat) (z' : Str), V.str ⟨#[c]⟩ = .str ⟨#[c']⟩ ∧ V.str z = .str z' ∧ Q (.bl (decide (c' ∈ z'.cps.toList))) H) := ⟨c, z, rfl, rfl, q⟩
theorem mt_swapcase : MtR X "str.swapcase" (fun x xs H Q => ∃ a, x = .str a ∧ xs = [] ∧ a.length ≤ 5592405 ∧ Q (.str (Txt.swapcase a)) H) :=
  mt0 (C := fun a => a.length ≤ 5592405) (g := fun a => .str (Txt.swapcase a)) fun a _ s _ hc h =>
    PySem.SC.swapcase (PyProof.Rows.short24 (by have h1 : a.length ≤ 5592405 := hc; have := PyProof.Rows.len_swapcase a; omega)) (h _ (s.toks + 1) ⟨_, rfl⟩)
theorem g_m0c {g : Str → V} {C : Str → Prop} (hc : C z) (q : Q (g z) H) : ∃ a, V.str z = .str a ∧ ([] : List V) = [] ∧ C a ∧ Q (g a) H := ⟨z, rfl, rfl, hc, q⟩
theorem g_join {p : Addr} {l : List Str} (h : SqL K H p (l.map V.str)) (hz : (l.map (·.length)).sum + l.length * z.length ≤ 16777216) (q : Q (.str (Txt.join z l)) H) :
    ∃ a p', ∃ ys : List Str, V.str z = .str a ∧ [V.ref p] = [.ref p'] ∧ (SqL K H p' (ys.map V.str) ∨ SqT K H p' (ys.map V.str)) ∧ (ys.map (·.length)).sum + ys.length * a.length ≤ 16777216 ∧ Q (.str (Txt.join a ys)) H :=
  ⟨z, p, l, rfl, rfl, .inl h, hz, q⟩
/-! keywords alone -/
theorem pe_callK0 {CX : CXT} {k : Nat} {f : Addr} {fd : FuncData} {ps ks : List Str} {sp : Sp} {E : XK} {x : Str} {p pos : Pos} {kws : List Keyword} {tk : TA} {g : List Value → List Value → List Value} {gV : List V → List V → List V}
    (F : FnOk X.prog X.w X.K X.mg X.base CX k f fd ps sp) (hr : Room k X.A) (hg : Gl X x) (hm : X.mg x = some (.ref f)) (hk : PySem.W.keepIn X.K (.ref f) = true) (hb : KBinds X.K fd ps ks g gV) (hx : Passes CX X E)
    (hkw : PK X kws tk) (hall : (backToKw pos (keywordEach kws X.env)).all (·.1.isSome) = true := by rfl) (hks : (backToKw pos (keywordEach kws X.env)).filterMap (·.1) = ks := by rfl)
    (hdb : (x == ("__debug__" : Str)) = false := by decide)
    (hpl : ((backTo pos (starEach [] X.env)).any (·.1) || (backToKw pos (keywordEach kws X.env)).any (·.1.isNone)) = false := by rfl) :
    PE X (.Call (.Name x p) [] kws pos) (tCallK sp gV E tNil tk) := by
  refine ⟨fun pins s σ H Q I h => ?_⟩
  refine wpAny_Call_Name_kw (ld_glob I hg hm ?_ hdb)
  refine PySem.W.callWith_KW0 (h₀ := X.base) I.ok.mod.kin hk hall ?_ hpl
  refine thn (hkw.run pos pins s σ H _ I h) fun ws s2 ⟨zs, H2, I2, rz, q2⟩ => ⟨I2.kIn, ?_⟩
  rw [hks]
  exact run_fnk F hr hb hx I2 .nil rz q2
/-! targets, sources -/
theorem g_gtup {n : Nat} {t : TGs} {P : L2.St → Hp → Prop} (h : SqT K H a xs) (hl : xs.length = n) (q : t xs σ H P) : gTup K n t (.ref a) σ H P := ⟨a, xs, rfl, h, hl, q⟩
theorem g_gcons {t : TG} {u : TGs} {P : L2.St → Hp → Prop} (q : t v σ H fun σ' H' => u xs σ' H' P) : gCons t u (v :: xs) σ H P := ⟨v, xs, rfl, q⟩
theorem g_gnil {P : L2.St → Hp → Prop} (q : P σ H) : gNil [] σ H P := ⟨rfl, q⟩
theorem g_gsub {to ti : TE} {t : TSet} {P : L2.St → Hp → Prop} (q : to σ H fun o H1 => ti σ H1 fun i H2 => t o i v H2 fun H3 => P σ H3) : gSub to ti t v σ H P := q
theorem g_setL {i : Nat} {P : Hp → Prop} (h : H p = some (.lst xs)) (hi : i < xs.length) (q : P (upd H p (.lst (xs.set i v)))) : rSetL (.ref p) (.int (i : Nat)) v H P :=
  ⟨p, xs, _, i, rfl, rfl, h, by unfold ixN; rw [if_pos (by omega), if_pos (by omega)]; simp, q⟩
/-! * : ints; a text by an int -/
theorem fold_app (l : List (Array Nat)) (a : Array Nat) : (l.foldl (· ++ ·) a).toList = a.toList ++ (l.map Array.toList).flatten := by
  induction l generalizing a with
  | nil => simp
  | cons x r ih => rw [List.foldl_cons, ih]; simp
def mulS (z : Str) (n : Nat) : Str := ⟨((List.replicate n z.cps.toList).flatten).toArray⟩
theorem op_mulS : OpR X (binaryOp .Mult) (fun x y H Q => ∃ (z : Str) (n : Nat), x = .str z ∧ y = .int (n : Nat) ∧ n ≤ 1000000 ∧ z.length * n ≤ 1000000 ∧ z.length ≤ 1000000 ∧ Q (.str (mulS z n)) H) := by
  intro pins s σ H x y v u Q I rx ry h
  obtain ⟨z, n, rfl, rfl, hn, hz, hz1, q⟩ := h
  obtain ⟨t, rfl⟩ := rx
  obtain ⟨t', rfl⟩ := ry
  refine PySem.P.mul_str (by simp; omega) (fun h1 h2 => ?_) (fun h1 h2 => PyProof.Rows.short24 (by rw [Int.toNat_natCast]; omega)) ?_
  · have h3 : (9223372036854775807 : Int) / 1000000 ≤ (2 ^ 63 - 1) / (n : Int) := by
      have : (0 : Int) < (n : Int) := by omega
      rw [Int.le_ediv_iff_mul_le this]
      have : (9223372036854775807 : Int) / 1000000 * (n : Int) ≤ 9223372036854775807 / 1000000 * 1000000 := Int.mul_le_mul_of_nonneg_left (by omega) (by decide)
      omega
    have h4 : ((9223372036854775807 : Int) / 1000000) = 9223372036854 := by decide
    omega
  · have e0 : n = 0 → mulS z n = Str.empty := fun e => by subst e; rfl
    by_cases h1 : (n : Int) < 1
    · rw [if_pos h1]
      have := e0 (by omega)
      exact ⟨by rw [sizeLine_eq]; decide, .str (mulS z n), H, I.tok _, ⟨_, by rw [this]⟩, q⟩
    · rw [if_neg h1]
      by_cases h2 : (((n : Int) == 1) || z.length == 0) = true
      · rw [if_pos h2]
        have e : mulS z n = z := by
          unfold mulS
          rcases (Bool.or_eq_true _ _).mp h2 with h3 | h3
          · have : n = 1 := by have := eq_of_beq h3; omega
            subst this
            simp
          · have h3 : z.cps.size = 0 := eq_of_beq h3
            have : z.cps.toList = [] := by
              rw [← List.length_eq_zero_iff, Array.length_toList]; exact h3
            rw [this]
            cases z with
            | mk c =>
              have : c = #[] := Array.toList_inj.mp this
              subst this
              simp
        exact ⟨.str (mulS z n), H, I, ⟨t, by rw [e]⟩, q⟩
      · rw [if_neg h2]
        have e : mulS z n = ⟨(List.replicate (n : Int).toNat z.cps).foldl (· ++ ·) #[]⟩ := by
          unfold mulS
          congr 1
          apply Array.toList_inj.mp
          rw [fold_app, Int.toNat_natCast, List.map_replicate]
          simp
        refine ⟨?_, .str (mulS z n), H, I.tok _, ⟨_, by rw [e]⟩, q⟩
        rw [← e, sizeLine_eq]
        show (mulS z n).cps.size ≤ _
        unfold mulS
        have h5 : z.cps.size * n ≤ 1000000 := hz
        simp only [List.size_toArray, List.length_flatten, List.map_replicate, List.sum_replicate_nat, Array.length_toList]
        rw [Nat.mul_comm]
        omega
def rMulU : R2 := fun x y H Q => rI CMul (fun i j => .int (i * j)) x y H Q ∨ ∃ (z : Str) (n : Nat), x = .str z ∧ y = .int (n : Nat) ∧ n ≤ 1000000 ∧ z.length * n ≤ 1000000 ∧ z.length ≤ 1000000 ∧ Q (.str (mulS z n)) H
theorem op_mulU : OpR X (binaryOp .Mult) rMulU := op_mul.or op_mulS
theorem g_mulI (c : CMul i j) (q : Q (.int (i * j)) H) : rMulU (.int i) (.int j) H Q := .inl ⟨i, j, rfl, rfl, c, q⟩
theorem g_mulS {n : Nat} (h1 : n ≤ 1000000) (h2 : z.length * n ≤ 1000000) (h3 : z.length ≤ 1000000) (q : Q (.str (mulS z n)) H) : rMulU (.str z) (.int (n : Nat)) H Q := .inr ⟨z, n, rfl, rfl, h1, h2, h3, q⟩
/-! the same with the written part named -/
variable (hK : X.K = K)
include hK
theorem ix_seqK : IxR X (rIx K) := hK ▸ ix_seq
theorem sl_UK : SlR X (rSlU K) := hK ▸ sl_U
theorem op_eqUK (hu : X.A.units + 64 < cLine) : OpR X (compareOp .Eq) (rEqU K) := hK ▸ op_eqU hu
theorem op_neUK (hu : X.A.units + 64 < cLine) : OpR X (compareOp .NotEq) (rNeU K) := hK ▸ op_neU hu
theorem op_ltUK (hu : X.A.units + 64 < cLine) : OpR X (compareOp .Lt) (rLtU K) := hK ▸ op_ltU hu
theorem op_inK : OpR X (compareOp .In) (rIn K false) := hK ▸ op_in_seq
theorem op_notInK : OpR X (compareOp .NotIn) (rIn K true) := hK ▸ op_notIn_seq
theorem call_lenUK : CallR X (.builtin "len") (rLenU K) := hK ▸ call_lenU
theorem call_maxUK (hc : X.calm = true) : CallR X (.builtin "max") (rMaxU K) := hK ▸ call_maxU hc
theorem call_minUK (hc : X.calm = true) : CallR X (.builtin "min") (rMinU K) := hK ▸ call_minU hc
theorem call_allK (hc : X.calm = true) : CallR X (.builtin "all") (rAll K) := hK ▸ cr_all hc
theorem call_anyK (hc : X.calm = true) : CallR X (.builtin "any") (rAny K) := hK ▸ cr_any hc
theorem call_sumK (hc : X.calm = true) : CallR X (.builtin "sum") (rSum K) := hK ▸ cr_sum hc
theorem call_isiUK : CallR X (.builtin "isinstance") (rIsi K) := hK ▸ call_isiU
def rJoin (K : PySem.W.Frag) : V → List V → Hp → VK → Prop := fun x xs H Q => ∃ a p, ∃ ys : List Str, x = .str a ∧ xs = [.ref p] ∧ (SqL K H p (ys.map V.str) ∨ SqT K H p (ys.map V.str)) ∧ (ys.map (·.length)).sum + ys.length * a.length ≤ 16777216 ∧ Q (.str (Txt.join a ys)) H
theorem mt_joinK : MtR X "str.join" (rJoin K) := hK ▸ mt_join
theorem pi_listK {tg l : Expr} {tl : TE} (hl : PE X l tl) : PI X tg l (iList K tl) := hK ▸ pi_list hl
theorem pg_tupK {es : List Expr} {k : Nat} {pos : Pos} {t : TGs} {n : Nat} (hc : X.calm = true) (h : PGs X es t)
    (hn : (assignEach es X.env).length = n := by rfl) (hst : (assignEach es X.env).findIdx? (·.1) = none := by rfl) : PG X (.Tuple es k pos) (gTup K n t) := hK ▸ pg_tup hc h hn hst
theorem pe_bmK {e : Expr} {to : TE} {t : TA} {T : String} {r : V → List V → Hp → VK → Prop} (h : PE X e (tBM X.K T r to t)) : PE X e (tBM K T r to t) := hK ▸ h
theorem pe_bm0K {e : Expr} {to : TE} {T : String} {r : V → List V → Hp → VK → Prop} (h : PE X e (tBM0 X.K T r to)) : PE X e (tBM0 K T r to) := hK ▸ h
theorem pe_fldK {e : Expr} {ta : TE} {f : Str} (h : PE X e (tFld X.K ta f)) : PE X e (tFld K ta f) := hK ▸ h
omit hK
theorem g_joinK {p : Addr} {l : List Str} (h : SqL K H p (l.map V.str)) (hz : (l.map (·.length)).sum + l.length * z.length ≤ 16777216) (q : Q (.str (Txt.join z l)) H) : rJoin K (.str z) [.ref p] H Q := ⟨z, p, l, rfl, rfl, .inl h, hz, q⟩
end
end Hx
/-! short words (local): go = the readings' own steps; hp, sq = what stands at an address; same = all kept -/
local macro_rules | `(tactic| walk_at "hx len") => `(tactic| (first
  | (obtain ⟨_, rfl, _⟩ := h; rfl) | (obtain ⟨_, _, rfl, _⟩ := h; rfl) | (obtain ⟨_, _, _, rfl, _⟩ := h; rfl) | (obtain ⟨_, _, _, _, rfl, _⟩ := h; rfl)
  | (obtain ⟨_, _, _, _, _, rfl, _⟩ := h; rfl) | (obtain ⟨_, _, _, _, _, _, rfl, _⟩ := h; rfl) | (obtain ⟨_, _, _, _, _, _, _, rfl, _⟩ := h; rfl) | (obtain ⟨rfl, _⟩ := h; rfl)))
local macro_rules | `(tactic| walk_at "hx free") => `(tactic| (first
  | assumption
  | with_reducible exact Hx.f_upd (by assumption) | with_reducible exact Hx.f_u2 (by assumption) | with_reducible exact Hx.f_u3 (by assumption)
  | with_reducible exact Hx.f_u4 (by assumption) | with_reducible exact Hx.f_u5 (by assumption) | with_reducible exact Hx.f_u6 (by assumption)
  | ((with_reducible refine Hx.f_same ?_ (by assumption)); walk_at "hx same")
  | ((with_reducible refine Hx.f_new (by walk_at "hx ne") ?_); walk_at "hx free")))
local macro_rules | `(tactic| walk_at "hx ne") => `(tactic| (first
  | assumption
  | (refine Ne.symm ?_; assumption)
  | with_reducible exact Hx.n_upd (by assumption) | with_reducible exact Hx.n_u2 (by assumption) | with_reducible exact Hx.n_u3 (by assumption) | with_reducible exact Hx.n_u4 (by assumption) | with_reducible exact Hx.n_u5 (by assumption)
  | with_reducible exact (Hx.n_upd (by assumption)).symm | with_reducible exact (Hx.n_u2 (by assumption)).symm | with_reducible exact (Hx.n_u3 (by assumption)).symm | with_reducible exact (Hx.n_u4 (by assumption)).symm
  | with_reducible exact Hx.n_at (by assumption) (by assumption) | with_reducible exact (Hx.n_at (by assumption) (by assumption)).symm))
local macro_rules | `(tactic| walk_at "hx hp") => `(tactic| (first
  | assumption
  | with_reducible exact L2.upd_same
  | ((with_reducible refine Hx.u_old (by walk_at "hx free") ?_); walk_at "hx hp")
  | ((with_reducible refine Hx.u_oth (by walk_at "hx ne") ?_); walk_at "hx hp")
  | ((with_reducible refine (by assumption : L2.Same _ _) _ _ ?_); walk_at "hx hp")))
local macro_rules | `(tactic| walk_at "hx sq") => `(tactic| (first
  | assumption
  | ((with_reducible refine Hx.sq_of ?_); walk_at "hx hp")
  | ((with_reducible refine Hx.sq_old (by walk_at "hx free") ?_); walk_at "hx sq")
  | ((with_reducible refine Hx.sq_oth (by walk_at "hx ne") ?_); walk_at "hx sq")
  | ((with_reducible refine Hx.sq_same (by assumption) ?_); walk_at "hx sq")))
local macro_rules | `(tactic| walk_at "hx same") => `(tactic| (first
  | assumption
  | with_reducible exact L2.Same.refl _
  | ((with_reducible refine Hx.s_new ?_ (by walk_at "hx free")); walk_at "hx same")
  | ((with_reducible refine Hx.s_mut ?_ (by walk_at "hx free")); walk_at "hx same")))
local macro_rules | `(tactic| walk_at "hx one") => `(tactic| (first
  | with_reducible refine Hx.g_seq ?_ | with_reducible refine Hx.g_asg ?_ | with_reducible refine Hx.g_op ?_
  | ((with_reducible refine' Hx.g_var ?hxv ?_); case hxv => exact rfl)
  | with_reducible refine Hx.g_c ?_ | with_reducible refine Hx.g_name ?_ | with_reducible refine Hx.g_cons ?_ | with_reducible refine Hx.g_nil ?_
  | with_reducible refine Hx.g_call ?_ | with_reducible refine Hx.g_CB ?_ | with_reducible refine Hx.g_ret ?_ | with_reducible refine Hx.g_drop ?_
  | with_reducible refine Hx.g_ifS ?_ | with_reducible refine Hx.g_test ?_ | with_reducible refine Hx.g_tB ?_ | with_reducible refine Hx.g_exb ?_
  | with_reducible refine Hx.g_not ?_ | with_reducible refine Hx.g_and ?_ | with_reducible refine Hx.g_or ?_
  | with_reducible refine Hx.g_andV ?_ | with_reducible refine Hx.g_orV ?_ | with_reducible refine Hx.g_notV ?_
  | with_reducible refine Hx.g_addI ?_ | with_reducible refine Hx.g_rI0 ?_ | with_reducible refine Hx.g_rU ?_ | with_reducible refine Hx.g_un ?_
  | with_reducible refine Hx.g_eqI ?_ | with_reducible refine Hx.g_neI ?_ | with_reducible refine Hx.g_eqS2 ?_ | with_reducible refine Hx.g_neS2 ?_
  | with_reducible refine Hx.g_eqB ?_ | with_reducible refine Hx.g_neB ?_ | with_reducible refine Hx.g_ltI ?_
  | with_reducible refine Hx.g_tup ?_ | with_reducible refine Hx.g_lst ?_ | with_reducible refine Hx.g_callK ?_ | with_reducible refine Hx.g_chain ?_
  | with_reducible refine Hx.g_sl ?_ | with_reducible refine Hx.g_nopart ?_ | with_reducible refine Hx.g_part ?_ | with_reducible refine Hx.g_exi ?_
  | with_reducible refine Hx.g_bm ?_ | with_reducible refine Hx.g_bm0 ?_ | with_reducible refine Hx.g_m0 ?_ | with_reducible refine Hx.g_m1 ?_ | with_reducible refine Hx.g_exs ?_
  | with_reducible refine Hx.g_tyS ?_ | with_reducible refine Hx.g_fld ?_ | with_reducible refine Hx.g_meth ?_ | with_reducible refine Hx.g_for ?_ | with_reducible refine Hx.g_lc ?_
  | with_reducible refine Hx.g_yes ?_ | ((with_reducible refine' Hx.g_aug ?hxv ?_); case hxv => exact rfl) | with_reducible refine Hx.g_ipI ?_
  | with_reducible refine Hx.g_iList ?_ | with_reducible refine Hx.g_iStr ?_ | with_reducible refine Hx.g_exstr ?_ | with_reducible refine Hx.g_iRng1 ?_
  | with_reducible refine Hx.g_max2 ?_ | with_reducible refine Hx.g_min2 ?_ | with_reducible refine Hx.g_intB ?_ | with_reducible refine Hx.g_reprB ?_
  | with_reducible refine Hx.g_if ?_ | with_reducible refine Hx.g_next ?_ | with_reducible refine Hx.g_brk ?_ | with_reducible refine Hx.g_cont ?_ | with_reducible refine Hx.g_retN ?_
  | with_reducible refine Hx.g_gcons ?_ | with_reducible refine Hx.g_gnil ?_ | with_reducible refine Hx.g_gsub ?_
  | with_reducible refine L2.iteT ?_ | with_reducible refine L2.iteF ?_))
local macro_rules | `(tactic| walk_at "hx go") => `(tactic| repeat (walk_at "hx one"))
namespace Pf
open PySem PySem.Spec PyProof.Rows L2 Hx
def topS (i : Nat) : Stmt := PySem.Challenge.pw_walkshome_k03_path_order.main.body.getD i (.Pass ⟨0, 0, 0, 0⟩)
abbrev s_sort_key : Stmt := topS 8
abbrev s_is_path : Stmt := topS 6
abbrev s_require_path : Stmt := topS 7
abbrev s_precedes : Stmt := topS 9
abbrev s_law_rank : Stmt := topS 14
abbrev s_law_take : Stmt := topS 12
abbrev s_law_path : Stmt := topS 13
abbrev s_law_pool : Stmt := topS 11
abbrev s_law : Stmt := topS 15
structure Ad where
  a_sort_key : Addr
  d_sort_key : FuncData
  a_is_path : Addr
  d_is_path : FuncData
  a_require_path : Addr
  d_require_path : FuncData
  a_precedes : Addr
  d_precedes : FuncData
  a_law_rank : Addr
  d_law_rank : FuncData
  a_law_take : Addr
  d_law_take : FuncData
  a_law_path : Addr
  d_law_path : FuncData
  a_law_pool : Addr
  d_law_pool : FuncData
  a_law : Addr
  d_law : FuncData
def kg_precedes_second_first {α : Type} : List α → List α → List α
  | [], [x0, x1] => [x1, x0]
  | _, _ => []
theorem kg_precedes_second_first_rel {vs : List V} {us : List Value} {zs : List V} {ws : List Value} (p0 : Vals vs us) (q0 : Vals zs ws) : Vals (kg_precedes_second_first vs zs) (kg_precedes_second_first us ws) := by
  cases p0 with
  | nil => (cases q0 with | nil => exact .nil | cons r0 q1 => (cases q1 with | nil => exact .nil | cons r1 q2 => (cases q2 with | nil => exact .cons r1 (.cons r0 (.nil)) | cons r q => exact .nil)))
  | cons a r => exact .nil
structure Txt (K : PySem.W.Frag) (mg : Str → Option Value) (A : Ad) : Prop where
  f_sort_key : Fun K "sort_key" "sort_key" s_sort_key A.a_sort_key A.d_sort_key
  g_sort_key : mg "sort_key" = some (.ref A.a_sort_key)
  b_sort_key : Binds K A.d_sort_key ["path"] []
  f_is_path : Fun K "is_path" "is_path" s_is_path A.a_is_path A.d_is_path
  g_is_path : mg "is_path" = some (.ref A.a_is_path)
  b_is_path : Binds K A.d_is_path ["value"] []
  f_require_path : Fun K "require_path" "require_path" s_require_path A.a_require_path A.d_require_path
  g_require_path : mg "require_path" = some (.ref A.a_require_path)
  b_require_path : Binds K A.d_require_path ["value"] []
  f_precedes : Fun K "precedes" "precedes" s_precedes A.a_precedes A.d_precedes
  g_precedes : mg "precedes" = some (.ref A.a_precedes)
  b_precedes : Binds K A.d_precedes ["first", "second"] []
  f_law_rank : Fun K "_law_rank" "_law_rank" s_law_rank A.a_law_rank A.d_law_rank
  g_law_rank : mg "_law_rank" = some (.ref A.a_law_rank)
  b_law_rank : Binds K A.d_law_rank ["_law_path_here"] []
  f_law_take : Fun K "_law_take" "_law_take" s_law_take A.a_law_take A.d_law_take
  g_law_take : mg "_law_take" = some (.ref A.a_law_take)
  b_law_take : Binds K A.d_law_take ["_law_pool_here", "_law_many"] []
  f_law_path : Fun K "_law_path" "_law_path" s_law_path A.a_law_path A.d_law_path
  g_law_path : mg "_law_path" = some (.ref A.a_law_path)
  b_law_path : Binds K A.d_law_path ["_law_pool_here", "_law_most", "_law_letters"] []
  f_law_pool : Fun K "_law_pool" "_law_pool" s_law_pool A.a_law_pool A.d_law_pool
  g_law_pool : mg "_law_pool" = some (.ref A.a_law_pool)
  b_law_pool : Binds K A.d_law_pool ["_law_script", "_law_k"] []
  f_law : Fun K "law" "law" s_law A.a_law A.d_law
  g_law : mg "law" = some (.ref A.a_law)
  b_law : Binds K A.d_law ["_law_script"] []
  kb_precedes_second_first : KBinds K A.d_precedes ["first", "second"] ["second", "first"] kg_precedes_second_first kg_precedes_second_first
  c_MAX_STEPS : ∃ t, mg "MAX_STEPS" = some (.int 400 t)
  c_STEPS : ∃ t, mg "STEPS" = some (.str "aAbBcCdD" t)
  z_all : mg "all" = none
  z_int : mg "int" = none
  z_isinstance : mg "isinstance" = none
  z_len : mg "len" = none
  z_max : mg "max" = none
  z_min : mg "min" = none
  z_range : mg "range" = none
  z_repr : mg "repr" = none
  z_str : mg "str" = none
section
variable {P : Program} {w : World} {K : PySem.W.Frag} {mg : Str → Option Value} {base : Heap} {A : Ad}
end
/-- the text of a list of codes -/
def S (l : List Nat) : Str := ⟨l.toArray⟩
theorem S_cps (l : List Nat) : (S l).cps.toList = l := by simp [S]
theorem S_len (l : List Nat) : (S l).length = l.length := by simp [S, Str.length]
theorem S_inj {l m : List Nat} (h : S l = S m) : l = m := by rw [← S_cps l, h, S_cps]
theorem S_of (z : Str) : z = S z.cps.toList := by cases z; simp [S]
theorem S_app (l m : List Nat) : S l ++ S m = S (l ++ m) := by
  show Str.append (S l) (S m) = _
  simp [Str.append, S]
theorem S_nil : (Str.ofString "") = S [] := by decide +kernel
theorem S_empty : Str.empty = S [] := rfl
def sg (c : Nat) : Str := S [c]
theorem sg_S (c : Nat) : (⟨#[c]⟩ : Str) = S [c] := rfl
theorem join_S : ∀ ls : List (List Nat), Txt.join (Str.ofString "") (ls.map S) = S ls.flatten := by
  intro ls
  rw [show ∀ (y : Str) (ps : List Str), Txt.join y ps = Str.join y ps from fun y ps => PySem.StrLaws.glued_eq_join y ps]
  induction ls with
  | nil => rfl
  | cons a r ih =>
    cases r with
    | nil => simp [Str.join]
    | cons b r =>
      show S a ++ Str.ofString "" ++ Str.join (Str.ofString "") ((b :: r).map S) = _
      rw [ih, S_nil, S_app, S_app]; simp
theorem join_sg (l : List Nat) : Txt.join (Str.ofString "") (l.map sg) = S l := by
  have := join_S (l.map fun c => [c])
  rw [List.map_map] at this
  rw [show (l.map sg) = l.map (S ∘ fun c => [c]) from rfl, this]
  congr 1
  clear this
  induction l with
  | nil => rfl
  | cons c r ih => rw [List.map_cons, List.flatten_cons, ih]; rfl
/-- the codes of the steps, in order -/
def stepC : List Nat := [97, 65, 98, 66, 99, 67, 100, 68]
theorem stepsS : (Str.ofString "aAbBcCdD") = S stepC := by decide +kernel
/-- a path: codes of steps -/
def IsP (l : List Nat) : Prop := ∀ c ∈ l, c ∈ stepC
theorem IsP.nil : IsP [] := fun _ h => by cases h
theorem IsP.app {l m : List Nat} (h : IsP l) (k : IsP m) : IsP (l ++ m) := fun c hc => (List.mem_append.mp hc).elim (h c) (k c)
theorem IsP.one {c : Nat} (h : c ∈ stepC) : IsP [c] := fun d hd => by rw [List.mem_singleton] at hd; subst hd; exact h
/-- the step at a place below eight -/
theorem step_at {d : Nat} (h : d < 8) : ∃ c, c ∈ stepC ∧ stepC[d]? = some c := ⟨stepC[d]'h, List.getElem_mem _, List.getElem?_eq_getElem h⟩
/-- the place of a step -/
def ixC (c : Nat) : Nat := stepC.idxOf c
theorem occ_step : ∀ c ∈ stepC, Builtin.Str.occurrences (Str.ofString "aAbBcCdD") (S [c]) 0 (Str.ofString "aAbBcCdD").length 1 = [ixC c] := by decide +kernel
theorem ixC_lt : ∀ c ∈ stepC, ixC c < 8 := by decide +kernel
/-- the order of lists of ints, the shorter first where one begins the other -/
def lexB : List Int → List Int → Bool
  | [], [] => false
  | [], _ :: _ => true
  | _ :: _, [] => false
  | x :: xs, y :: ys => if x = y then lexB xs ys else decide (x < y)
theorem toks_ints : ∀ (xs ys : List Int), PyProof.Rows.lexLt PyProof.Rows.itemOrd (PySem.W.keyToksAll (xs.map PyData.int)) (PySem.W.keyToksAll (ys.map PyData.int)) = lexB xs ys
  | [], [] => by decide +kernel
  | [], y :: ys => by
    rw [List.map_cons, PySem.W.toks_all_cons, List.map_nil, PySem.W.keyToksAll]
    rw [PyProof.Rows.lex_diff (O := PyProof.Rows.itemOrd) (by decide)]
    rfl
  | x :: xs, [] => by
    rw [List.map_cons, PySem.W.toks_all_cons, List.map_nil, PySem.W.keyToksAll]
    rw [PyProof.Rows.lex_diff (O := PyProof.Rows.itemOrd) (by decide)]
    rfl
  | x :: xs, y :: ys => by
    by_cases e : x = y
    · subst e
      rw [List.map_cons, List.map_cons, PySem.W.dataLt_all_yes (by rfl) (by simp [PyData.eqv]), toks_ints xs ys]
      simp [lexB]
    · rw [List.map_cons, List.map_cons, PySem.W.dataLt_all_no (by rfl) (by simp [PyData.eqv, e]), PySem.W.dataLt_int]
      simp [lexB, e]
theorem lt_pair (a b : Int) (xs ys : List PyData) (hxy : PySem.W.alikeAll xs ys = true) : PySem.W.dataLt (.tuple (.int a :: xs)) (.tuple (.int b :: ys)) = if a = b then PyProof.Rows.lexLt PyProof.Rows.itemOrd (PySem.W.keyToksAll xs) (PySem.W.keyToksAll ys) else decide (a < b) := by
  rw [PySem.W.dataLt_tuple]
  by_cases e : a = b
  · subst e; rw [if_pos rfl, PySem.W.dataLt_all_yes (by rfl) (by simp [PyData.eqv])]
  · rw [if_neg e, PySem.W.dataLt_all_no (by rfl) (by simp [PyData.eqv, e]), PySem.W.dataLt_int]
theorem toks_one (x y : PyData) (h : PySem.W.alike x y = true) (hr : PyData.eqv x y = true → PySem.W.dataLt x y = false) : PyProof.Rows.lexLt PyProof.Rows.itemOrd (PySem.W.keyToksAll [x]) (PySem.W.keyToksAll [y]) = PySem.W.dataLt x y := by
  cases e : PyData.eqv x y with
  | true => rw [PySem.W.dataLt_all_yes h e, hr e]; decide +kernel
  | false => rw [PySem.W.dataLt_all_no h e]
theorem lexB_irr : ∀ xs, lexB xs xs = false
  | [] => rfl
  | x :: xs => by simp [lexB, lexB_irr xs]
theorem eqv_ints : ∀ xs ys : List Int, PyData.eqvAll (xs.map .int) (ys.map .int) = true → xs = ys
  | [], [], _ => rfl
  | [], _ :: _, h => by simp [PyData.eqvAll] at h
  | _ :: _, [], h => by simp [PyData.eqvAll] at h
  | x :: xs, y :: ys, h => by
    rw [List.map_cons, List.map_cons, PySem.W.eqv_all_cons, Bool.and_eq_true] at h
    have h1 : x = y := by simpa [PyData.eqv] using h.1
    rw [h1, eqv_ints xs ys h.2]
theorem alike_ints : ∀ xs ys : List Int, PySem.W.alikeAll (xs.map .int) (ys.map .int) = true
  | [], _ => by simp [PySem.W.alikeAll]
  | _ :: _, [] => by simp [PySem.W.alikeAll]
  | x :: xs, y :: ys => by rw [List.map_cons, List.map_cons, PySem.W.alikeAll, alike_ints xs ys]; rfl
/-- the keys of two paths compared -/
theorem lt_keys (a b : Int) (xs ys : List Int) : PySem.W.dataLt (.tuple [.int a, .list (xs.map .int)]) (.tuple [.int b, .list (ys.map .int)]) = if a = b then lexB xs ys else decide (a < b) := by
  rw [lt_pair a b _ _ (by rw [PySem.W.alikeAll, PySem.W.alike, alike_ints]; simp [PySem.W.alikeAll])]
  by_cases e : a = b
  · rw [if_pos e, if_pos e, toks_one _ _ (by rw [PySem.W.alike]; exact alike_ints xs ys) fun h => ?_, PySem.W.dataLt_list, toks_ints]
    rw [PyData.eqv] at h
    rw [eqv_ints xs ys h, PySem.W.dataLt_list, toks_ints, lexB_irr]
  · rw [if_neg e, if_neg e]
theorem lt_ints2 (a b c d : Int) : PySem.W.dataLt (.tuple [.int a, .int b]) (.tuple [.int c, .int d]) = if a = c then decide (b < d) else decide (a < c) := by
  rw [lt_pair a c _ _ (by rfl)]
  by_cases e : a = c
  · rw [if_pos e, if_pos e, toks_one _ _ (by rfl) fun h => ?_, PySem.W.dataLt_int]
    have h1 : b = d := by simpa [PyData.eqv] using h
    rw [h1, PySem.W.dataLt_int]; simp
  · rw [if_neg e, if_neg e]
/-- the number of a path, base eight -/
def rk (a : Nat) : List Nat → Nat
  | [] => a
  | c :: r => rk (a * 8 + ixC c) r
theorem rk_lt : ∀ (l m : List Nat) (a b : Nat), IsP l → IsP m → l.length = m.length → a < b → rk a l < rk b m
  | [], [], _, _, _, _, _, h => h
  | c :: l, d :: m, a, b, hl, hm, e, h => by
    have h1 := ixC_lt c (hl c (by simp)); have h2 := ixC_lt d (hm d (by simp))
    exact rk_lt l m _ _ (fun x hx => hl x (by simp [hx])) (fun x hx => hm x (by simp [hx])) (by simpa using e) (by omega)
  | [], _ :: _, _, _, _, _, e, _ => by simp at e
  | _ :: _, [], _, _, _, _, e, _ => by simp at e
theorem lex_rk : ∀ (l m : List Nat) (a : Nat), IsP l → IsP m → l.length = m.length → lexB (l.map fun c => (ixC c : Int)) (m.map fun c => (ixC c : Int)) = decide (rk a l < rk a m)
  | [], [], _, _, _, _ => by simp [lexB, rk]
  | c :: l, d :: m, a, hl, hm, e => by
    have hl' : IsP l := fun x hx => hl x (by simp [hx]); have hm' : IsP m := fun x hx => hm x (by simp [hx])
    have e' : l.length = m.length := by simpa using e
    rw [List.map_cons, List.map_cons, lexB]
    by_cases q : ixC c = ixC d
    · rw [if_pos (by omega), lex_rk l m (a * 8 + ixC c) hl' hm' e']; simp [rk, q]
    · rw [if_neg (by omega)]
      by_cases q2 : ixC c < ixC d
      · have := rk_lt l m (a * 8 + ixC c) (a * 8 + ixC d) hl' hm' e' (by omega)
        rw [rk, rk]; exact decide_eq_decide.mpr (by omega)
      · have := rk_lt m l (a * 8 + ixC d) (a * 8 + ixC c) hm' hl' e'.symm (by omega)
        rw [rk, rk]; exact decide_eq_decide.mpr (by omega)
  | [], _ :: _, _, _, _, e => by simp at e
  | _ :: _, [], _, _, _, e => by simp at e
/-- a path comes ahead of another -/
def pre (l m : List Nat) : Bool := if (l.length : Int) = (m.length : Int) then lexB (l.map fun c => (ixC c : Int)) (m.map fun c => (ixC c : Int)) else decide ((l.length : Int) < (m.length : Int))
theorem pre_rk {l m : List Nat} (hl : IsP l) (hm : IsP m) : (if (l.length : Int) = (m.length : Int) then decide ((rk 0 l : Int) < (rk 0 m : Int)) else decide ((l.length : Int) < (m.length : Int))) = pre l m := by
  unfold pre
  by_cases e : (l.length : Int) = (m.length : Int)
  · rw [if_pos e, if_pos e, lex_rk l m 0 hl hm (by omega)]
    exact decide_eq_decide.mpr (by omega)
  · rw [if_neg e, if_neg e]
section
variable {P : Program} {w : World} {K : PySem.W.Frag} {mg : Str → Option Value} {base : Heap} {A : Ad}
theorem sc_sort_key : FnScope ["path", "step"] ["path"] (defScope s_sort_key) := ⟨rfl, rfl, rfl, by decide +kernel, rfl, by decide +kernel, by decide +kernel⟩
def nm_sort_key : List Str := ["path", "step"]
def sp_sort_key (K : PySem.W.Frag) : Sp := fun vs H Q _ => ∃ (l : List Nat), vs = [.str (S l)] ∧ IsP l ∧ l.length ≤ 1000 ∧
  ∀ a b H', Same H H' → H' a = some (.tup [.int (l.length : Nat), .ref b]) → H' b = some (.lst ((l.map fun c => (ixC c : Int)).map V.int)) → Q (.ref a) H'
theorem ok_sort_key (T : Txt K mg A) : FnOk P w K mg base CX0 1 A.a_sort_key A.d_sort_key ["path"] (sp_sort_key K) := by
  refine T.f_sort_key.ok sc_sort_key (fun vs H Q E h => ?_) (fun cdv A_ outer s H vs Q E hr h => ?_)
  · first | (obtain ⟨_, rfl, _⟩ := h; rfl) | (obtain ⟨_, _, rfl, _⟩ := h; rfl) | (obtain ⟨_, _, _, rfl, _⟩ := h; rfl) | (obtain ⟨_, _, _, _, rfl, _⟩ := h; rfl) | (obtain ⟨_, _, _, _, _, rfl, _⟩ := h; rfl) | (obtain ⟨_, _, _, _, _, _, rfl, _⟩ := h; rfl) | (obtain ⟨rfl, _⟩ := h; rfl)
  · obtain ⟨l, rfl, hl, hz, q⟩ := h
    refine ⟨_, (pss_one (ps_ret (pe_tup (pa_cons (pe_callB (call_lenUK (K := K) rfl) (by rfl) T.z_len PySem.boot_len (pa_cons (pv 0) pa_nil)) (pa_cons (pe_lc (own := [("step", 1)]) (g := (gName 1)) (tt := tYes) rfl sc_sort_key.nd (pi_str (pv 0)) (blkOk_by (N := nm_sort_key) (sc := defScope s_sort_key) (by decide +kernel)) (fun _ _ _ _ _ => (pg_name (i := 1) sc_sort_key.nd rfl (by first | exact Or.inl rfl | exact Or.inr rfl))) (fun _ _ _ _ _ => pts_nil) (fun _ _ _ _ _ => (pe_m1 PySem.F.slot_str_index PySem.F.type_str_index mt_sindex (pe_gS T.c_STEPS) (pv 1)))) pa_nil))))), ?_⟩
    dsimp only [L2.cxOf, L2.Cx.nox, L2.Cx.wish, L2.start, List.map, List.length_cons, List.length_nil, Nat.reduceAdd, Nat.reduceSub, List.replicate, List.cons_append, List.nil_append, nm_sort_key]
    walk_at "hx go"
    refine g_lenS (by rw [S_len, sizeLine_eq]; omega) ?_
    rw [S_len]
    walk_at "hx go"
    intro D nD
    refine lc_it walk_str (fun i H2 => Same H H2 ∧ H2 D = some (.lst (((l.take i).map fun c => (ixC c : Int)).map V.int))) ?_ ?_ ?_ ?_
    · exact ⟨s_new (Same.refl H) nD, by rw [upd_same]; rfl⟩
    · intro i H2 _ _; trivial
    · rintro i x H2 H3 hi ⟨e2, hD⟩ ⟨rfl, c, ec, rfl⟩
      have ec2 : l[i]? = some c := by rw [← S_cps l, Array.getElem?_toList]; exact ec
      have hc : c ∈ stepC := hl c (List.mem_of_getElem? ec2)
      walk_at "hx go"
      refine ⟨rfl, ?_⟩
      walk_at "hx go"
      refine ⟨_, _, _, _, rfl, rfl, occ_step c hc, ?_⟩
      refine ⟨_, hD, ?_, s_mut e2 nD, ?_⟩
      · rw [List.length_map, List.length_map, List.length_take, sizeLine_eq]
        omega
      · rw [upd_same, List.take_succ, ec2]
        simp
    · rintro H2 ⟨e2, hD⟩
      rw [List.take_of_length_le (by show l.length ≤ (S l).length; rw [S_len]; exact Nat.le_refl _)] at hD
      walk_at "hx go"
      refine g_sz (by simp) fun p np => ?_
      exact q p D _ (s_new e2 np) upd_same (u_old np hD)

theorem sc_is_path : FnScope ["value", "step"] ["value"] (defScope s_is_path) := ⟨rfl, rfl, rfl, by decide +kernel, rfl, by decide +kernel, by decide +kernel⟩
def nm_is_path : List Str := ["value", "step"]
/-- what is_path tells of a text -/
def isP (z : Str) : Bool := decide ((z.length : Int) ≤ 400) && z.cps.toList.all fun c => decide (c ∈ stepC)
theorem isP_S {l : List Nat} (h : IsP l) (hl : l.length ≤ 400) : isP (S l) = true := by
  unfold isP
  rw [S_cps, S_len, decide_eq_true (by omega), Bool.true_and, List.all_eq_true]
  exact fun c hc => decide_eq_true (h c hc)
def sp_is_path (K : PySem.W.Frag) : Sp := fun vs H Q _ => ∃ (x : V), vs = [x] ∧
  ((∃ z, x = .str z ∧ z.length ≤ 100000 ∧ ∀ H', Same H H' → Q (.bl (isP z)) H') ∨ (∃ t, TyX K H x t ∧ PySem.W.kitOne K t (.type "str") = some false ∧ Q (.bl false) H))
theorem ok_is_path (T : Txt K mg A) : FnOk P w K mg base CX0 1 A.a_is_path A.d_is_path ["value"] (sp_is_path K) := by
  refine T.f_is_path.ok sc_is_path (fun vs H Q E h => ?_) (fun cdv A_ outer s H vs Q E hr h => ?_)
  · first | (obtain ⟨_, rfl, _⟩ := h; rfl) | (obtain ⟨_, _, rfl, _⟩ := h; rfl) | (obtain ⟨_, _, _, rfl, _⟩ := h; rfl) | (obtain ⟨_, _, _, _, rfl, _⟩ := h; rfl) | (obtain ⟨_, _, _, _, _, rfl, _⟩ := h; rfl) | (obtain ⟨_, _, _, _, _, _, rfl, _⟩ := h; rfl) | (obtain ⟨rfl, _⟩ := h; rfl)
  · obtain ⟨x, rfl, h⟩ := h
    refine ⟨_, (pss_one (ps_ret (pe_and (pe_callB (call_isiUK (K := K) rfl) (by rfl) T.z_isinstance PyProof.Rows.boot_isinstance (pa_cons (pv 0) (pa_cons (pe_bltn (v := .ty "str") (by rfl) T.z_str (by decide +kernel) rfl) pa_nil))) (pe_and (pe_cmpR op_le (pe_callB (call_lenUK (K := K) rfl) (by rfl) T.z_len PySem.boot_len (pa_cons (pv 0) pa_nil)) (pe_gI T.c_MAX_STEPS) rfl) (pe_one (pe_callB (call_allK (K := K) rfl rfl) (by rfl) T.z_all PyProof.Rows.boot_all (pa_cons (pe_lc (own := [("step", 1)]) (g := (gName 1)) (tt := tYes) rfl sc_is_path.nd (pi_str (pv 0)) (blkOk_by (N := nm_is_path) (sc := defScope s_is_path) (by decide +kernel)) (fun _ _ _ _ _ => (pg_name (i := 1) sc_is_path.nd rfl (by first | exact Or.inl rfl | exact Or.inr rfl))) (fun _ _ _ _ _ => pts_nil) (fun _ _ _ _ _ => (pe_cmpR op_in_sign (pv 1) (pe_gS T.c_STEPS) rfl))) pa_nil))))))), ?_⟩
    dsimp only [L2.cxOf, L2.Cx.nox, L2.Cx.wish, L2.start, List.map, List.length_cons, List.length_nil, Nat.reduceAdd, Nat.reduceSub, List.replicate, List.cons_append, List.nil_append, nm_is_path]
    walk_at "hx go"
    rcases h with ⟨z, rfl, hz, q⟩ | ⟨t, ht, ek, q⟩
    · refine g_isi (.ty _) (.base (.str z)) (kit_ty (r := true) (by decide +kernel)) ?_
      walk_at "hx go"
      refine g_lenS (Nat.le_trans hz (by decide)) ?_
      walk_at "hx go"
      refine g_byD (fun h4 => ?_) (fun h4 => ?_)
      · walk_at "hx go"
        intro D nD
        refine lc_it walk_str (fun i H2 => Same H H2 ∧ H2 D = some (.lst (((z.cps.toList.take i).map fun c => decide (c ∈ stepC)).map V.bl))) ?_ ?_ ?_ ?_
        · exact ⟨s_new (Same.refl H) nD, by rw [upd_same]; rfl⟩
        · intro i H2 _ _; trivial
        · rintro i x H2 H3 hi ⟨e2, hD⟩ ⟨rfl, c, ec, rfl⟩
          walk_at "hx go"
          refine ⟨rfl, ?_⟩
          walk_at "hx go"
          refine ⟨c, _, rfl, rfl, ?_⟩
          refine ⟨_, hD, ?_, s_mut e2 nD, ?_⟩
          · rw [List.length_map, List.length_map, List.length_take, sizeLine_eq]
            have : z.cps.toList.length ≤ 100000 := by rw [Array.length_toList]; exact hz
            omega
          · rw [upd_same, List.take_succ, show z.cps.toList[i]? = some c by rw [Array.getElem?_toList]; exact ec, stepsS, S_cps]
            simp
        · rintro H2 ⟨e2, hD⟩
          rw [List.take_of_length_le (by rw [Array.length_toList]; exact Nat.le_refl _)] at hD
          walk_at "hx go"
          refine g_all (sq_of hD) ?_
          have q1 := q H2 e2
          unfold isP at q1
          rw [decide_eq_true h4, Bool.true_and] at q1
          rw [List.all_map]
          exact q1
      · walk_at "hx go"
        have q1 := q H (Same.refl H)
        unfold isP at q1
        rw [decide_eq_false h4, Bool.false_and] at q1
        exact q1
    · refine g_isi (.ty _) ht ek ?_
      walk_at "hx go"
      exact q

theorem sc_require_path : FnScope ["value"] ["value"] (defScope s_require_path) := ⟨rfl, rfl, rfl, by decide +kernel, rfl, by decide +kernel, by decide +kernel⟩
def nm_require_path : List Str := ["value"]
def sp_require_path (K : PySem.W.Frag) : Sp := fun vs H Q _ => ∃ (z : Str), vs = [.str z] ∧ z.length ≤ 100000 ∧ isP z = true ∧ ∀ H', Same H H' → Q .non H'
theorem ok_require_path (T : Txt K mg A) : FnOk P w K mg base CX0 2 A.a_require_path A.d_require_path ["value"] (sp_require_path K) := by
  refine T.f_require_path.ok sc_require_path (fun vs H Q E h => ?_) (fun cdv A_ outer s H vs Q E hr h => ?_)
  · first | (obtain ⟨_, rfl, _⟩ := h; rfl) | (obtain ⟨_, _, rfl, _⟩ := h; rfl) | (obtain ⟨_, _, _, rfl, _⟩ := h; rfl) | (obtain ⟨_, _, _, _, rfl, _⟩ := h; rfl) | (obtain ⟨_, _, _, _, _, rfl, _⟩ := h; rfl) | (obtain ⟨_, _, _, _, _, _, rfl, _⟩ := h; rfl) | (obtain ⟨rfl, _⟩ := h; rfl)
  · obtain ⟨z, rfl, hz, hp, q⟩ := h
    refine ⟨_, (pss_one (ps_if (pt_not (pt_val (pe_call (ok_is_path T) (hr.mono (by decide)) (by rfl) T.g_is_path T.f_is_path.kp T.b_is_path .nil pass0 (pa_cons (pv 0) pa_nil)))) (pss_one ps_never) pss_nil)), ?_⟩
    dsimp only [L2.cxOf, L2.Cx.nox, L2.Cx.wish, L2.start, List.map, List.length_cons, List.length_nil, Nat.reduceAdd, Nat.reduceSub, List.replicate, List.cons_append, List.nil_append, nm_require_path]
    walk_at "hx go"
    refine ⟨_, rfl, .inl ⟨z, rfl, hz, fun H1 e1 => ?_⟩⟩
    rw [hp]
    walk_at "hx go"
    exact q H1 e1

theorem sc_precedes : FnScope ["first", "second"] ["first", "second"] (defScope s_precedes) := ⟨rfl, rfl, rfl, by decide +kernel, rfl, by decide +kernel, by decide +kernel⟩
def nm_precedes : List Str := ["first", "second"]
def sp_precedes (K : PySem.W.Frag) : Sp := fun vs H Q _ => ∃ (l m : List Nat), vs = [.str (S l), .str (S m)] ∧ IsP l ∧ IsP m ∧ l.length ≤ 400 ∧ m.length ≤ 400 ∧
  ∀ H', Same H H' → Q (.bl (pre l m)) H'
theorem ok_precedes (T : Txt K mg A) : FnOk P w K mg base CX0 3 A.a_precedes A.d_precedes ["first", "second"] (sp_precedes K) := by
  refine T.f_precedes.ok sc_precedes (fun vs H Q E h => ?_) (fun cdv A_ outer s H vs Q E hr h => ?_)
  · first | (obtain ⟨_, rfl, _⟩ := h; rfl) | (obtain ⟨_, _, rfl, _⟩ := h; rfl) | (obtain ⟨_, _, _, rfl, _⟩ := h; rfl) | (obtain ⟨_, _, _, _, rfl, _⟩ := h; rfl) | (obtain ⟨_, _, _, _, _, rfl, _⟩ := h; rfl) | (obtain ⟨_, _, _, _, _, _, rfl, _⟩ := h; rfl) | (obtain ⟨rfl, _⟩ := h; rfl)
  · obtain ⟨l, m, rfl, hl, hm, hz, hy, q⟩ := h
    refine ⟨_, (pss_cons (ps_expr (pe_call (ok_require_path T) (hr.mono (by decide)) (by rfl) T.g_require_path T.f_require_path.kp T.b_require_path .nil pass0 (pa_cons (pv 0) pa_nil)))
      (pss_cons (ps_expr (pe_call (ok_require_path T) (hr.mono (by decide)) (by rfl) T.g_require_path T.f_require_path.kp T.b_require_path .nil pass0 (pa_cons (pv 1) pa_nil)))
      (pss_one (ps_ret (pe_cmpR (op_ltUK (K := K) rfl hr.units) (pe_call (ok_sort_key T) (hr.mono (by decide)) (by rfl) T.g_sort_key T.f_sort_key.kp T.b_sort_key .nil pass0 (pa_cons (pv 0) pa_nil)) (pe_call (ok_sort_key T) (hr.mono (by decide)) (by rfl) T.g_sort_key T.f_sort_key.kp T.b_sort_key .nil pass0 (pa_cons (pv 1) pa_nil)) rfl))))), ?_⟩
    dsimp only [L2.cxOf, L2.Cx.nox, L2.Cx.wish, L2.start, List.map, List.length_cons, List.length_nil, Nat.reduceAdd, Nat.reduceSub, List.replicate, List.cons_append, List.nil_append, nm_precedes]
    walk_at "hx go"
    refine ⟨S l, rfl, by rw [S_len]; omega, isP_S hl hz, fun H1 e1 => ?_⟩
    walk_at "hx go"
    refine ⟨S m, rfl, by rw [S_len]; omega, isP_S hm hy, fun H2 e2 => ?_⟩
    walk_at "hx go"
    refine ⟨l, rfl, hl, by omega, fun a b H3 e3 ha hb => ?_⟩
    walk_at "hx go"
    refine ⟨m, rfl, hm, by omega, fun a' b' H4 e4 ha' hb' => ?_⟩
    walk_at "hx go"
    have dp : ∀ (ks : List Int) (b : Addr), H4 b = some (.lst (ks.map V.int)) → Dp K H4 (.ref b) (.list (ks.map .int)) := fun ks b h => by
      refine .lst (sq_of h) ?_
      clear h
      induction ks with
      | nil => exact .nil
      | cons k r ih => exact .cons (.int k) ih
    refine g_ltD (.tup (st_of (e4 _ _ ha)) (.cons (.int _) (.cons (dp _ _ (e4 _ _ hb)) .nil))) (.tup (st_of ha') (.cons (.int _) (.cons (dp _ _ hb') .nil))) ?_ (fun e => by cases e) ?_ ?_
    · simp only [PySem.W.alike, PySem.W.alikeAll, alike_ints, Bool.and_self]
    · have : ∀ ks : List Int, PyData.depthAll (ks.map .int) = 0 := fun ks => by
        induction ks with
        | nil => rfl
        | cons k r ih => rw [List.map_cons, PyData.depthAll, ih]; rfl
      simp only [PyData.depth, PyData.depthAll, this]
      omega
    · rw [lt_keys]
      have q1 := q H4 (((e1.trans e2).trans e3).trans e4)
      unfold pre at q1
      exact q1

theorem sc_law_rank : FnScope ["_law_path_here", "_law_found", "_law_step"] ["_law_path_here"] (defScope s_law_rank) := ⟨rfl, rfl, rfl, by decide +kernel, rfl, by decide +kernel, by decide +kernel⟩
def nm_law_rank : List Str := ["_law_path_here", "_law_found", "_law_step"]
def sp_law_rank (K : PySem.W.Frag) : Sp := fun vs H Q _ => ∃ (l : List Nat), vs = [.str (S l)] ∧ IsP l ∧ l.length ≤ 1000 ∧
  ∀ a H', Same H H' → H' a = some (.tup [.int (l.length : Nat), .int (rk 0 l : Nat)]) → Q (.ref a) H'
theorem ok_law_rank (T : Txt K mg A) : FnOk P w K mg base CX0 1 A.a_law_rank A.d_law_rank ["_law_path_here"] (sp_law_rank K) := by
  refine T.f_law_rank.ok sc_law_rank (fun vs H Q E h => ?_) (fun cdv A_ outer s H vs Q E hr h => ?_)
  · first | (obtain ⟨_, rfl, _⟩ := h; rfl) | (obtain ⟨_, _, rfl, _⟩ := h; rfl) | (obtain ⟨_, _, _, rfl, _⟩ := h; rfl) | (obtain ⟨_, _, _, _, rfl, _⟩ := h; rfl) | (obtain ⟨_, _, _, _, _, rfl, _⟩ := h; rfl) | (obtain ⟨_, _, _, _, _, _, rfl, _⟩ := h; rfl) | (obtain ⟨rfl, _⟩ := h; rfl)
  · obtain ⟨l, rfl, hl, hz, q⟩ := h
    refine ⟨_, (pss_cons (ps_set (i := 1) sc_law_rank.nd rfl (by first | exact Or.inl rfl | exact Or.inr rfl) pe_int)
      (pss_cons (ps_for PassesOwn.never rfl (pi_str (pv 0)) (pg_name (i := 2) sc_law_rank.nd rfl (by first | exact Or.inl rfl | exact Or.inr rfl)) (pss_one (ps_set (i := 1) sc_law_rank.nd rfl (by first | exact Or.inl rfl | exact Or.inr rfl) (pe_op op_addU (pe_op op_mulU (pv 1) pe_int) (pe_m1 PySem.F.slot_str_index PySem.F.type_str_index mt_sindex pe_str (pv 2))))))
      (pss_one (ps_ret (pe_tup (pa_cons (pe_callB (call_lenUK (K := K) rfl) (by rfl) T.z_len PySem.boot_len (pa_cons (pv 0) pa_nil)) (pa_cons (pv 1) pa_nil))))))), ?_⟩
    dsimp only [L2.cxOf, L2.Cx.nox, L2.Cx.wish, L2.start, List.map, List.length_cons, List.length_nil, Nat.reduceAdd, Nat.reduceSub, List.replicate, List.cons_append, List.nil_append, nm_law_rank]
    walk_at "hx go"
    refine for_it walk_str (fun i σ H2 => ∃ v, σ = [some (.str (S l)), some (.int (rk 0 (l.take i) : Nat)), v] ∧ H2 = H) ⟨none, rfl, rfl⟩ (fun _ _ _ _ _ => trivial) ?_ ?_
    · rintro i x σ H2 H3 hi ⟨v, rfl, rfl⟩ ⟨rfl, c, ec, rfl⟩
      have ec2 : l[i]? = some c := by rw [← S_cps l, Array.getElem?_toList]; exact ec
      have hc : c ∈ stepC := hl c (List.mem_of_getElem? ec2)
      walk_at "hx go"
      refine g_mulI (.inr ⟨by decide, by decide⟩) ?_
      walk_at "hx go"
      refine ⟨_, _, _, _, rfl, rfl, occ_step c hc, ?_⟩
      walk_at "hx go"
      have e : rk 0 (l.take (i + 1)) = rk 0 (l.take i) * 8 + ixC c := by
        rw [List.take_succ, ec2]
        have : ∀ (m : List Nat) (a : Nat), rk a (m ++ [c]) = rk a m * 8 + ixC c := fun m => by
          induction m with
          | nil => intro a; rfl
          | cons d r ih => intro a; exact ih _
        exact this _ _
      exact ⟨some (.str (S [c])), by rw [e, Int.natCast_add, Int.natCast_mul]; rfl, rfl⟩
    · rintro σ H2 ⟨v, rfl, rfl⟩
      have e : l.take (S l).cps.size = l := List.take_of_length_le (by show l.length ≤ (S l).length; rw [S_len]; exact Nat.le_refl _)
      rw [e]
      walk_at "hx go"
      refine g_lenS (by rw [S_len, sizeLine_eq]; omega) ?_
      rw [S_len]
      walk_at "hx go"
      refine g_sz (by simp) fun p np => ?_
      exact q p _ (s_new (Same.refl H2) np) upd_same

end
/-- a pool of draws at p -/
def PoolAt (H : Hp) (p : Addr) : Prop := ∃ x y : Int, 0 ≤ x ∧ 0 ≤ y ∧ y < 2147483647 ∧ H p = some (.lst [.int x, .int y])
theorem cut_ints (ns : List Int) (lo hi : Option Int) : ∃ ms : List Int, ms.length ≤ ns.length ∧ cutV (ns.map V.int) lo hi = ms.map V.int :=
  ⟨(ns.drop (HT.sIx (ns.map V.int).length 0 lo)).take (HT.sIx (ns.map V.int).length (ns.map V.int).length hi - HT.sIx (ns.map V.int).length 0 lo), by
    rw [List.length_take, List.length_drop]; omega, by unfold cutV; rw [List.map_take, List.map_drop]⟩
theorem at0 (ms : List Int) : ∃ c : Int, atI (ms.map V.int ++ [V.int 0]) 0 = some (.int c) := by
  cases ms with
  | nil => exact ⟨0, rfl⟩
  | cons c r => exact ⟨c, atI_nat (j := 0) rfl⟩
theorem b01 (b : Bool) : (0 : Int) ≤ (if b = true then 1 else 0) ∧ (if b = true then (1 : Int) else 0) ≤ 1 := by cases b <;> decide
section
variable {P : Program} {w : World} {K : PySem.W.Frag} {mg : Str → Option Value} {base : Heap} {A : Ad}
theorem sc_law_take : FnScope ["_law_pool_here", "_law_many", "_law_digit"] ["_law_pool_here", "_law_many"] (defScope s_law_take) := ⟨rfl, rfl, rfl, by decide +kernel, rfl, by decide +kernel, by decide +kernel⟩
def nm_law_take : List Str := ["_law_pool_here", "_law_many", "_law_digit"]
def sp_law_take (K : PySem.W.Frag) : Sp := fun vs H Q _ => ∃ (p : Addr) (m : Int), vs = [.ref p, .int m] ∧ PoolAt H p ∧ 0 < m ∧ m ≤ 1000000 ∧
  ∀ (d : Nat) H', (d : Int) < m → But p H H' → (∀ b, H b = none → H' b = none) → PoolAt H' p → Q (.int (d : Nat)) H'
theorem ok_law_take (T : Txt K mg A) : FnOk P w K mg base CX0 1 A.a_law_take A.d_law_take ["_law_pool_here", "_law_many"] (sp_law_take K) := by
  refine T.f_law_take.ok sc_law_take (fun vs H Q E h => ?_) (fun cdv A_ outer s H vs Q E hr h => ?_)
  · first | (obtain ⟨_, rfl, _⟩ := h; rfl) | (obtain ⟨_, _, rfl, _⟩ := h; rfl) | (obtain ⟨_, _, _, rfl, _⟩ := h; rfl) | (obtain ⟨_, _, _, _, rfl, _⟩ := h; rfl) | (obtain ⟨_, _, _, _, _, rfl, _⟩ := h; rfl) | (obtain ⟨_, _, _, _, _, _, rfl, _⟩ := h; rfl) | (obtain ⟨rfl, _⟩ := h; rfl)
  · obtain ⟨p, m, rfl, ⟨x, y, hx, hy, hy2, hp⟩, hm, hm2, q⟩ := h
    refine ⟨_, (pss_cons (ps_if (pt_cmpR op_gt (pe_ix (ix_seqK (K := K) rfl) (pv 0) pe_int (fun _ _ => rfl)) pe_int rfl) (pss_cons (ps_set (i := 2) sc_law_take.nd rfl (by first | exact Or.inl rfl | exact Or.inr rfl) (pe_op op_mod (pe_ix (ix_seqK (K := K) rfl) (pv 0) pe_int (fun _ _ => rfl)) (pv 1)))
      (pss_cons (ps_asg (pe_op op_fdiv (pe_ix (ix_seqK (K := K) rfl) (pv 0) pe_int (fun _ _ => rfl)) (pv 1)) (pg_sub (pv 0) pe_int set_list))
      (pss_one (ps_ret (pv 2))))) pss_nil)
      (pss_cons (ps_asg (pe_op op_mod (pe_op op_addU (pe_op op_mulU (pe_ix (ix_seqK (K := K) rfl) (pv 0) pe_int (fun _ _ => rfl)) pe_int) pe_int) pe_int) (pg_sub (pv 0) pe_int set_list))
      (pss_one (ps_ret (pe_op op_mod (pe_op op_fdiv (pe_op op_mod (pe_op op_mulU (pe_ix (ix_seqK (K := K) rfl) (pv 0) pe_int (fun _ _ => rfl)) (pe_ix (ix_seqK (K := K) rfl) (pv 0) pe_int (fun _ _ => rfl))) pe_int) pe_int) (pv 1)))))), ?_⟩
    dsimp only [L2.cxOf, L2.Cx.nox, L2.Cx.wish, L2.start, List.map, List.length_cons, List.length_nil, Nat.reduceAdd, Nat.reduceSub, List.replicate, List.cons_append, List.nil_append, nm_law_take]
    have hS1 : SqL K H p [.int x, .int y] := sq_of hp
    have pn : ∀ {H' : Hp} {o u : HO}, (H' p = some o) → ∀ b, H' b = none → upd H' p u b = none := fun h b n => f_new (fun e => by rw [e, h] at n; cases n) n
    walk_at "hx go"
    refine g_ixL hS1 (atI_nat (j := 0) rfl) ?_
    walk_at "hx go"
    refine g_byD (fun h0 => ?_) (fun h0 => ?_)
    · walk_at "hx go"
      refine g_ixL hS1 (atI_nat (j := 0) rfl) ?_
      walk_at "hx go"
      refine g_mod hm ?_
      walk_at "hx go"
      refine g_ixL hS1 (atI_nat (j := 0) rfl) ?_
      walk_at "hx go"
      refine g_div ⟨hm, by omega⟩ ?_
      walk_at "hx go"
      refine g_setL (i := 0) hp (by show 0 < 2; decide) ?_
      walk_at "hx go"
      have e := Int.toNat_of_nonneg (Int.emod_nonneg x (show m ≠ 0 by omega))
      have e2 := Int.emod_lt_of_pos x hm
      have q1 := q (x % m).toNat (upd H p (.lst [.int (x / m), .int y])) (by omega) (But.own (But.refl p H)) (pn hp) ⟨_, _, Int.ediv_nonneg hx (by omega), hy, hy2, upd_same⟩
      rw [e] at q1
      exact q1
    · walk_at "hx go"
      refine g_ixL hS1 (atI_nat (j := 1) rfl) ?_
      walk_at "hx go"
      refine g_mulI (.inr ⟨by decide, by decide⟩) ?_
      walk_at "hx go"
      refine g_mod (by decide) ?_
      walk_at "hx go"
      refine g_setL (i := 1) hp (by show 1 < 2; decide) ?_
      have hm0 := Int.emod_nonneg (y * 48271 + 12345) (show (2147483647 : Int) ≠ 0 by decide)
      have hm1 := Int.emod_lt_of_pos (y * 48271 + 12345) (show (0 : Int) < 2147483647 by decide)
      generalize (y * 48271 + 12345) % 2147483647 = z at *
      have hp2 : upd H p (.lst ([V.int x, .int y].set 1 (.int z))) p = some (.lst [.int x, .int z]) := upd_same
      have hS2 : SqL K (upd H p (.lst ([V.int x, .int y].set 1 (.int z)))) p [.int x, .int z] := sq_of hp2
      walk_at "hx go"
      refine g_ixL hS2 (atI_nat (j := 1) rfl) ?_
      walk_at "hx go"
      refine g_ixL hS2 (atI_nat (j := 1) rfl) ?_
      walk_at "hx go"
      refine g_mulI (.inl ⟨by omega, by omega⟩) ?_
      walk_at "hx go"
      refine g_mod (by decide) ?_
      walk_at "hx go"
      refine g_div ⟨by decide, by decide⟩ ?_
      walk_at "hx go"
      refine g_mod hm ?_
      have e := Int.toNat_of_nonneg (Int.emod_nonneg (z * z % 2147483629 / 64) (show m ≠ 0 by omega))
      have e2 := Int.emod_lt_of_pos (z * z % 2147483629 / 64) hm
      have q1 := q (z * z % 2147483629 / 64 % m).toNat (upd H p (.lst [.int x, .int z])) (by omega) (But.own (But.refl p H)) (pn hp) ⟨x, z, hx, hm0, hm1, upd_same⟩
      rw [e] at q1
      exact q1

theorem sc_law_path : FnScope ["_law_pool_here", "_law_most", "_law_letters", "_law_turn"] ["_law_pool_here", "_law_most", "_law_letters"] (defScope s_law_path) := ⟨rfl, rfl, rfl, by decide +kernel, rfl, by decide +kernel, by decide +kernel⟩
def nm_law_path : List Str := ["_law_pool_here", "_law_most", "_law_letters", "_law_turn"]
def sp_law_path (K : PySem.W.Frag) : Sp := fun vs H Q _ => ∃ (p : Addr) (most letters : Nat), vs = [.ref p, .int (most : Nat), .int (letters : Nat)] ∧ PoolAt H p ∧ most ≤ 1000 ∧ 1 ≤ letters ∧ letters ≤ 4 ∧
  ∀ (l : List Nat) H', IsP l → l.length ≤ most → But p H H' → PoolAt H' p → Q (.str (S l)) H'
theorem ok_law_path (T : Txt K mg A) : FnOk P w K mg base CX0 2 A.a_law_path A.d_law_path ["_law_pool_here", "_law_most", "_law_letters"] (sp_law_path K) := by
  refine T.f_law_path.ok sc_law_path (fun vs H Q E h => ?_) (fun cdv A_ outer s H vs Q E hr h => ?_)
  · first | (obtain ⟨_, rfl, _⟩ := h; rfl) | (obtain ⟨_, _, rfl, _⟩ := h; rfl) | (obtain ⟨_, _, _, rfl, _⟩ := h; rfl) | (obtain ⟨_, _, _, _, rfl, _⟩ := h; rfl) | (obtain ⟨_, _, _, _, _, rfl, _⟩ := h; rfl) | (obtain ⟨_, _, _, _, _, _, rfl, _⟩ := h; rfl) | (obtain ⟨rfl, _⟩ := h; rfl)
  · obtain ⟨p, most, letters, rfl, hP, hm, hl1, hl4, q⟩ := h
    refine ⟨_, (pss_one (ps_ret (pe_m1 PySem.F.slot_str_join PySem.F.type_str_join (mt_joinK (K := K) rfl) pe_str (pe_lc (own := [("_law_turn", 3)]) (g := (gName 3)) (tt := tYes) rfl sc_law_path.nd (pi_range1 (by rfl) T.z_range (pa_cons (pe_call (ok_law_take T) (hr.mono (by decide)) (by rfl) T.g_law_take T.f_law_take.kp T.b_law_take .nil pass0 (pa_cons (pv 0) (pa_cons (pe_op op_addU (pv 1) pe_int) pa_nil))) pa_nil)) (blkOk_by (N := nm_law_path) (sc := defScope s_law_path) (by decide +kernel)) (fun _ _ _ _ _ => (pg_name (i := 3) sc_law_path.nd rfl (by first | exact Or.inl rfl | exact Or.inr rfl))) (fun _ _ _ _ _ => pts_nil) (fun _ _ _ _ _ => (pe_ix (ix_seqK (K := K) rfl) pe_str (pe_call (ok_law_take T) (hr.mono (by decide)) (by rfl) T.g_law_take T.f_law_take.kp T.b_law_take .nil pass0 (pa_cons (pv 0) (pa_cons (pe_op op_mulU pe_int (pv 2)) pa_nil))) (fun _ _ => rfl))))))), ?_⟩
    dsimp only [L2.cxOf, L2.Cx.nox, L2.Cx.wish, L2.start, List.map, List.length_cons, List.length_nil, Nat.reduceAdd, Nat.reduceSub, List.replicate, List.cons_append, List.nil_append, nm_law_path]
    walk_at "hx go"
    refine ⟨p, _, rfl, hP, by omega, by omega, fun d H1 hd b1 f1 P1 => ?_⟩
    walk_at "hx go"
    refine g_srcR (j := (d : Int)) (by omega) ?_
    intro D nD
    have neD : D ≠ p := fun e => by obtain ⟨_, _, _, _, _, e2⟩ := P1; rw [e, e2] at nD; cases nD
    refine lc_it walk_range (fun i H2 => ∃ l : List Nat, l.length = i ∧ IsP l ∧ H2 D = some (.lst ((l.map sg).map V.str)) ∧ But p H H2 ∧ PoolAt H2 p) ?_ ?_ ?_ ?_
    · obtain ⟨x, y, h1, h2, h3, h4⟩ := P1
      exact ⟨[], rfl, IsP.nil, upd_same, But.new b1 nD, ⟨x, y, h1, h2, h3, u_old nD h4⟩⟩
    · intro i H2 _ _; trivial
    · rintro i x H2 H3 hi ⟨l, el, hl, hD, b2, P2⟩ ⟨rfl, rfl⟩
      walk_at "hx go"
      refine ⟨rfl, ?_⟩
      walk_at "hx go"
      refine g_mulI (.inl ⟨by decide, by decide⟩) ?_
      walk_at "hx go"
      refine ⟨p, _, rfl, P2, by omega, by omega, fun j H4 hj b4 f4 P4 => ?_⟩
      walk_at "hx go"
      obtain ⟨c, hc, ec⟩ := step_at (d := j) (by omega)
      refine g_ixS (n := c) (by decide +kernel) (by rw [stepsS, S_cps]; exact atI_nat ec) ?_
      have hD4 := b4 D _ neD hD
      refine ⟨_, hD4, by rw [List.length_map, List.length_map, sizeLine_eq]; omega, l ++ [c], by simp [el], hl.app (.one hc), ?_, ?_, ?_⟩
      · rw [upd_same]; simp [sg_S, sg]
      · exact But.mut (b2.trans b4) (by
          cases e : H D with
          | none => rfl
          | some o => rw [b1 D o neD e] at nD; cases nD)
      · obtain ⟨x, y, h1, h2, h3, h4⟩ := P4
        exact ⟨x, y, h1, h2, h3, u_oth neD.symm h4⟩
    · rintro H2 ⟨l, el, hl, hD, b2, P2⟩
      rw [Int.toNat_natCast] at el
      have hz : ((l.map sg).map (·.length)).sum = l.length := by
        rw [List.map_map]
        clear el hl hD
        induction l with
        | nil => rfl
        | cons c r ih => rw [List.map_cons, List.sum_cons, ih]; simp [sg, S_len]; omega
      refine g_joinK (l := l.map sg) (sq_of hD) ?_ ?_
      · rw [hz]; simp only [List.length_map]; rw [show (Str.ofString "").length = 0 from by decide +kernel]; omega
      · rw [join_sg]
        exact q l H2 hl (by omega) b2 P2

theorem sc_law_pool : FnScope ["_law_script", "_law_k", "_law_cell", "_law_number", "_law_mixed"] ["_law_script", "_law_k"] (defScope s_law_pool) := ⟨rfl, rfl, rfl, by decide +kernel, rfl, by decide +kernel, by decide +kernel⟩
def nm_law_pool : List Str := ["_law_script", "_law_k", "_law_cell", "_law_number", "_law_mixed"]
def sp_law_pool (K : PySem.W.Frag) : Sp := fun vs H Q _ => ∃ (a : Addr) (ns : List Int) (k : Nat), vs = [.ref a, .int (k : Nat)] ∧ SqL K H a (ns.map V.int) ∧ ns.length ≤ 63 ∧ k ≤ 63 ∧
  ∀ p H', Same H H' → H p = none → PoolAt H' p → Q (.ref p) H'
theorem ok_law_pool (T : Txt K mg A) : FnOk P w K mg base CX0 1 A.a_law_pool A.d_law_pool ["_law_script", "_law_k"] (sp_law_pool K) := by
  refine T.f_law_pool.ok sc_law_pool (fun vs H Q E h => ?_) (fun cdv A_ outer s H vs Q E hr h => ?_)
  · first | (obtain ⟨_, rfl, _⟩ := h; rfl) | (obtain ⟨_, _, rfl, _⟩ := h; rfl) | (obtain ⟨_, _, _, rfl, _⟩ := h; rfl) | (obtain ⟨_, _, _, _, rfl, _⟩ := h; rfl) | (obtain ⟨_, _, _, _, _, rfl, _⟩ := h; rfl) | (obtain ⟨_, _, _, _, _, _, rfl, _⟩ := h; rfl) | (obtain ⟨rfl, _⟩ := h; rfl)
  · obtain ⟨a, ns, k, rfl, hS, hl, hk, q⟩ := h
    refine ⟨_, (pss_cons (ps_set (i := 2) sc_law_pool.nd rfl (by first | exact Or.inl rfl | exact Or.inr rfl) (pe_ix (ix_seqK (K := K) rfl) (pe_op op_addU (pe_slice (sl_UK (K := K) rfl) (pv 0) (po_some (pv 1)) (po_some (pe_op op_addU (pv 1) pe_int))) (pe_lst (pa_cons pe_int pa_nil))) pe_int (fun _ _ => rfl)))
      (pss_cons (ps_set (i := 3) sc_law_pool.nd rfl (by first | exact Or.inl rfl | exact Or.inr rfl) (pe_callB (call_maxUK (K := K) rfl rfl) (by rfl) T.z_max PyProof.Rows.boot_max (pa_cons (pv 2) (pa_cons (pe_op op_sub (pe_un un_neg pe_int) (pv 2)) pa_nil))))
      (pss_cons (ps_set (i := 4) sc_law_pool.nd rfl (by first | exact Or.inl rfl | exact Or.inr rfl) (pe_op op_mod (pe_op op_mulU (pe_op op_addU (pe_op op_addU (pe_op op_addU (pe_op op_mod (pv 3) pe_int) (pe_op op_mulU (pe_op op_mulU pe_int (pv 1)) (pv 1))) (pe_op op_mulU pe_int (pv 1))) pe_int) pe_int) pe_int))
      (pss_one (ps_ret (pe_lst (pa_cons (pe_op op_mulU (pv 3) (pe_callTy call_int1U (by rfl) T.z_int (by decide +kernel) (pa_cons (pe_cmpR op_ge (pv 3) (pe_op op_pow pe_int pe_int) rfl) pa_nil))) (pa_cons (pe_op op_mod (pe_op op_mulU (pv 4) (pv 4)) pe_int) pa_nil)))))))), ?_⟩
    dsimp only [L2.cxOf, L2.Cx.nox, L2.Cx.wish, L2.start, List.map, List.length_cons, List.length_nil, Nat.reduceAdd, Nat.reduceSub, List.replicate, List.cons_append, List.nil_append, nm_law_pool]
    walk_at "hx go"
    refine g_slL hS fun p1 n1 => ?_
    obtain ⟨ms, hms, ems⟩ := cut_ints ns (some (k : Nat)) (some ((k : Nat) + 1))
    rw [ems]
    walk_at "hx go"
    refine g_sz (by decide) fun p2 n2 => ?_
    walk_at "hx go"
    refine g_addL (by walk_at "hx hp") (by walk_at "hx hp") (by rw [List.length_map, sizeLine_eq]; show ms.length + 1 ≤ _; omega) fun p3 n3 => ?_
    walk_at "hx go"
    obtain ⟨c, hc⟩ := at0 ms
    refine g_ixL (by walk_at "hx sq") hc ?_
    walk_at "hx go"
    have hn : 0 ≤ max c (-1 - c) := by omega
    generalize max c (-1 - c) = n at *
    refine g_mod (by decide) ?_
    walk_at "hx go"
    refine g_mulI (.inl ⟨by decide, by decide⟩) ?_
    walk_at "hx go"
    refine g_mulI (.inr ⟨by omega, by omega⟩) ?_
    walk_at "hx go"
    refine g_mulI (.inl ⟨by decide, by decide⟩) ?_
    walk_at "hx go"
    refine g_mulI (.inr ⟨by decide, by decide⟩) ?_
    walk_at "hx go"
    refine g_mod (by decide) ?_
    have hm0 := Int.emod_nonneg ((n % 2147483629 + 7919 * (k : Int) * (k : Int) + 31 * (k : Int) + 17) * 48271) (show (2147483647 : Int) ≠ 0 by decide)
    have hm1 := Int.emod_lt_of_pos ((n % 2147483629 + 7919 * (k : Int) * (k : Int) + 31 * (k : Int) + 17) * 48271) (show (0 : Int) < 2147483647 by decide)
    generalize ((n % 2147483629 + 7919 * (k : Int) * (k : Int) + 31 * (k : Int) + 17) * 48271) % 2147483647 = m at *
    walk_at "hx go"
    refine g_pow ⟨by decide, by decide, by decide⟩ ?_
    walk_at "hx go"
    obtain ⟨b1, b2⟩ := b01 (decide ((10 : Int) ^ (18 : Int).toNat ≤ n))
    generalize (if decide ((10 : Int) ^ (18 : Int).toNat ≤ n) = true then (1 : Int) else 0) = b at *
    refine g_mulI (.inr ⟨by omega, by omega⟩) ?_
    walk_at "hx go"
    refine g_mulI (.inl ⟨by omega, by omega⟩) ?_
    walk_at "hx go"
    refine g_mod (by decide) ?_
    walk_at "hx go"
    refine g_sz (by simp) fun p4 n4 => ?_
    refine q p4 _ (by walk_at "hx same") (by walk_at "hx free") ⟨_, _, Int.mul_nonneg hn b1, Int.emod_nonneg _ (by decide), by have := Int.emod_lt_of_pos (m * m) (show (0 : Int) < 2147483629 by decide); omega, upd_same⟩

theorem sc_law : FnScope ["_law_script", "_law_k", "_law_pool_here", "_law_letters", "_law_paths", "_law_one", "_law_other", "_law_due", "_law_turn"] ["_law_script"] (defScope s_law) := ⟨rfl, rfl, rfl, by decide +kernel, rfl, by decide +kernel, by decide +kernel⟩
def nm_law : List Str := ["_law_script", "_law_k", "_law_pool_here", "_law_letters", "_law_paths", "_law_one", "_law_other", "_law_due", "_law_turn"]
def sp_law (K : PySem.W.Frag) : Sp := fun vs H Q _ => ∃ (a : Addr) (ns : List Int), vs = [.ref a] ∧ SqL K H a (ns.map V.int) ∧ ns.length ≤ 63 ∧ ∀ H', Q (.bl true) H'
theorem ok_law (T : Txt K mg A) : FnOk P w K mg base CX0 4 A.a_law A.d_law ["_law_script"] (sp_law K) := by
  refine T.f_law.ok sc_law (fun vs H Q E h => ?_) (fun cdv A_ outer s H vs Q E hr h => ?_)
  · first | (obtain ⟨_, rfl, _⟩ := h; rfl) | (obtain ⟨_, _, rfl, _⟩ := h; rfl) | (obtain ⟨_, _, _, rfl, _⟩ := h; rfl) | (obtain ⟨_, _, _, _, rfl, _⟩ := h; rfl) | (obtain ⟨_, _, _, _, _, rfl, _⟩ := h; rfl) | (obtain ⟨_, _, _, _, _, _, rfl, _⟩ := h; rfl) | (obtain ⟨rfl, _⟩ := h; rfl)
  · obtain ⟨a, ns, rfl, hS, hn, q⟩ := h
    refine ⟨_, (pss_cons (ps_if (pt_cmpR (op_neUK (K := K) rfl hr.units) (pe_gS T.c_STEPS) pe_str rfl) (pss_one (ps_ret pe_bl)) pss_nil)
      (pss_cons (ps_for PassesOwn.never rfl (pi_range1 (by rfl) T.z_range (pa_cons (pe_callB (call_maxUK (K := K) rfl rfl) (by rfl) T.z_max PyProof.Rows.boot_max (pa_cons pe_int (pa_cons (pe_callB (call_minUK (K := K) rfl rfl) (by rfl) T.z_min (by decide +kernel) (pa_cons pe_int (pa_cons (pe_callB (call_lenUK (K := K) rfl) (by rfl) T.z_len PySem.boot_len (pa_cons (pv 0) pa_nil)) pa_nil))) pa_nil))) pa_nil)) (pg_name (i := 1) sc_law.nd rfl (by first | exact Or.inl rfl | exact Or.inr rfl)) (pss_cons (ps_set (i := 2) sc_law.nd rfl (by first | exact Or.inl rfl | exact Or.inr rfl) (pe_call (ok_law_pool T) (hr.mono (by decide)) (by rfl) T.g_law_pool T.f_law_pool.kp T.b_law_pool .nil pass0 (pa_cons (pv 0) (pa_cons (pv 1) pa_nil))))
      (pss_cons (ps_set (i := 3) sc_law.nd rfl (by first | exact Or.inl rfl | exact Or.inr rfl) (pe_op op_addU pe_int (pe_call (ok_law_take T) (hr.mono (by decide)) (by rfl) T.g_law_take T.f_law_take.kp T.b_law_take .nil pass0 (pa_cons (pv 2) (pa_cons pe_int pa_nil)))))
      (pss_cons (ps_setLc (i := 4) (own := [("_law_turn", 8)]) (g := (gName 8)) (tt := tYes) rfl sc_law.nd rfl rfl (sw_true rfl rfl rfl (by decide +kernel)) (pi_range1 (by rfl) T.z_range (pa_cons (pe_op op_addU pe_int (pe_call (ok_law_take T) (hr.mono (by decide)) (by rfl) T.g_law_take T.f_law_take.kp T.b_law_take .nil pass0 (pa_cons (pv 2) (pa_cons pe_int pa_nil)))) pa_nil)) (blkOk_by (N := nm_law) (sc := defScope s_law) (by decide +kernel)) (fun _ _ _ _ _ => (pg_name (i := 8) sc_law.nd rfl (by first | exact Or.inl rfl | exact Or.inr rfl))) (fun _ _ _ _ _ => pts_nil) (fun _ _ _ _ _ => (pe_call (ok_law_path T) (hr.mono (by decide)) (by rfl) T.g_law_path T.f_law_path.kp T.b_law_path .nil pass0 (pa_cons (pv 2) (pa_cons pe_int (pa_cons (pv 3) pa_nil))))))
      (pss_cons (ps_expr (pe_bmK (K := K) rfl (pe_bm PySem.F.plainAttrs_list PySem.F.slot_list_append PySem.F.type_list_append mt_append (pv 4) (pa_cons (pe_ix (ix_seqK (K := K) rfl) (pv 4) pe_int (fun _ _ => rfl)) pa_nil))))
      (pss_one (ps_for PassesOwn.never rfl (pi_listK (K := K) rfl (pv 4)) (pg_name (i := 5) sc_law.nd rfl (by first | exact Or.inl rfl | exact Or.inr rfl)) (pss_one (ps_for PassesOwn.never rfl (pi_listK (K := K) rfl (pv 4)) (pg_name (i := 6) sc_law.nd rfl (by first | exact Or.inl rfl | exact Or.inr rfl)) (pss_cons (ps_set (i := 7) sc_law.nd rfl (by first | exact Or.inl rfl | exact Or.inr rfl) (pe_cmpR (op_ltUK (K := K) rfl hr.units) (pe_call (ok_law_rank T) (hr.mono (by decide)) (by rfl) T.g_law_rank T.f_law_rank.kp T.b_law_rank .nil pass0 (pa_cons (pv 5) pa_nil)) (pe_call (ok_law_rank T) (hr.mono (by decide)) (by rfl) T.g_law_rank T.f_law_rank.kp T.b_law_rank .nil pass0 (pa_cons (pv 6) pa_nil)) rfl))
      (pss_one (ps_if (PW.pt (pw_or (pt_cmpR (op_neUK (K := K) rfl hr.units) (pe_callB call_reprU (by rfl) T.z_repr PyProof.Rows.boot_repr (pa_cons (pe_call (ok_precedes T) (hr.mono (by decide)) (by rfl) T.g_precedes T.f_precedes.kp T.b_precedes .nil pass0 (pa_cons (pv 5) (pa_cons (pv 6) pa_nil))) pa_nil)) (pe_callB call_reprU (by rfl) T.z_repr PyProof.Rows.boot_repr (pa_cons (pv 7) pa_nil)) rfl) (pw_or1 (pt_cmpR (op_neUK (K := K) rfl hr.units) (pe_callK0 (ok_precedes T) (hr.mono (by decide)) (by rfl) T.g_precedes T.f_precedes.kp T.kb_precedes_second_first pass0 (pk_cons (pv 6) (pk_cons (pv 5) pk_nil))) (pv 7) rfl)))) (pss_one (ps_ret pe_bl)) pss_nil))))))))))))
      (pss_one (ps_ret pe_bl)))), ?_⟩
    dsimp only [L2.cxOf, L2.Cx.nox, L2.Cx.wish, L2.start, List.map, List.length_cons, List.length_nil, Nat.reduceAdd, Nat.reduceSub, List.replicate, List.cons_append, List.nil_append, nm_law]
    walk_at "hx go"
    refine g_byN (fun h => absurd rfl h) fun _ => ?_
    walk_at "hx go"
    refine g_lenL hS ?_
    rw [List.length_map]
    walk_at "hx go"
    refine g_srcR (j := max 1 (min 10 (ns.length : Int))) (by omega) ?_
    refine for_it walk_range (fun i σ H2 => (∃ v1 v2 v3 v4 v5 v6 v7 v8, σ = [some (.ref a), v1, v2, v3, v4, v5, v6, v7, v8]) ∧ Same H H2) ⟨⟨_, _, _, _, _, _, _, _, rfl⟩, Same.refl H⟩ (fun _ _ _ _ _ => trivial) ?_ ?_
    · rintro i x σ H2 H3 hi ⟨⟨v1, v2, v3, v4, v5, v6, v7, v8, rfl⟩, e2⟩ ⟨rfl, rfl⟩
      simp only [Int.zero_add]
      walk_at "hx go"
      refine ⟨a, ns, i, rfl, e2.seq hS, hn, by omega, fun p H4 e4 np P4 => ?_⟩
      walk_at "hx go"
      refine ⟨p, 4, rfl, P4, by decide, by decide, fun d H5 hd b5 f5 P5 => ?_⟩
      walk_at "hx go"
      refine ⟨p, 12, rfl, P5, by decide, by decide, fun n H6 hn6 b6 f6 P6 => ?_⟩
      walk_at "hx go"
      refine g_srcR (j := 1 + (n : Int)) (by omega) ?_
      intro D nD
      have e6 : Same H3 H6 := (b5.trans b6).same e4 np
      have neD : D ≠ p := fun e => by obtain ⟨_, _, _, _, _, h⟩ := P6; rw [e, h] at nD; cases nD
      have nD3 : H3 D = none := e6.free nD
      refine lc_it walk_range (fun i H2 => ∃ ls : List (List Nat), ls.length = i ∧ (∀ l ∈ ls, IsP l ∧ l.length ≤ 6) ∧ H2 D = some (.lst ((ls.map S).map V.str)) ∧ Same H3 H2 ∧ PoolAt H2 p) ?_ ?_ ?_ ?_
      · obtain ⟨x, y, h1, h2, h3, h4⟩ := P6
        exact ⟨[], rfl, (fun _ h => by cases h), upd_same, s_new e6 nD, ⟨x, y, h1, h2, h3, u_old nD h4⟩⟩
      · intro i H2 _ _; trivial
      · rintro i2 x H7 H8 hi2 ⟨ls, el, hls, hD, e7, P7⟩ ⟨rfl, rfl⟩
        walk_at "hx go"
        refine ⟨rfl, ?_⟩
        walk_at "hx go"
        refine ⟨p, 6, 1 + d, rfl, P7, by decide, by omega, by omega, fun l H9 hl hl6 b9 P9 => ?_⟩
        refine ⟨_, b9 D _ neD hD, by rw [List.length_map, List.length_map, sizeLine_eq]; omega, ls ++ [l], by simp [el], ?_, ?_, ?_, ?_⟩
        · intro l' h'
          rcases List.mem_append.mp h' with h' | h'
          · exact hls l' h'
          · rw [List.mem_singleton] at h'; subst h'; exact ⟨hl, hl6⟩
        · rw [upd_same]; simp
        · exact s_mut (b9.same e7 np) nD3
        · obtain ⟨x, y, h1, h2, h3, h4⟩ := P9
          exact ⟨x, y, h1, h2, h3, u_oth neD.symm h4⟩
      · rintro H7 ⟨ls, el, hls, hD, e7, P7⟩
        walk_at "hx go"
        have hne : ∃ l r, ls = l :: r := by
          cases ls with
          | nil => exact absurd el (by simp only [List.length_nil]; omega)
          | cons l r => exact ⟨l, r, rfl⟩
        obtain ⟨l0, r0, els⟩ := hne
        have hD' : SqL K H7 D ((ls.map S).map V.str) := sq_of hD
        refine g_tyL hD' ?_
        walk_at "hx go"
        refine g_ixL hD' (v := .str (S l0)) (by rw [els]; exact atI_nat (j := 0) rfl) ?_
        walk_at "hx go"
        refine ⟨D, _, _, rfl, rfl, hD, by rw [List.length_map, List.length_map, sizeLine_eq]; omega, ?_⟩
        walk_at "hx go"
        have hls' : ∀ l ∈ ls ++ [l0], IsP l ∧ l.length ≤ 6 := fun l' h' => by
          rcases List.mem_append.mp h' with h' | h'
          · exact hls l' h'
          · rw [List.mem_singleton] at h'; subst h'; exact hls _ (by rw [els]; exact List.mem_cons_self)
        have eD : (ls.map S).map V.str ++ [V.str (S l0)] = ((ls ++ [l0]).map S).map V.str := by simp
        rw [eD]
        generalize ls ++ [l0] = ms at hls'
        have e8 : Same H3 (upd H7 D (.lst ((ms.map S).map V.str))) := s_mut e7 nD3
        have hM : (upd H7 D (.lst ((ms.map S).map V.str))) D = some (.lst ((ms.map S).map V.str)) := upd_same
        generalize upd H7 D (.lst ((ms.map S).map V.str)) = H8 at e8 hM
        refine g_srcL (sq_of hM) ?_
        refine for_it (walk_list (xs := (ms.map S).map V.str)) (fun j σ H9 => (∃ v1 v5 v6 v7 v8, σ = [some (.ref a), v1, some (.ref p), some (.int (1 + (d : Nat))), some (.ref D), v5, v6, v7, v8]) ∧ Same H8 H9) ⟨⟨_, _, _, _, _, rfl⟩, Same.refl _⟩ (fun _ _ _ _ h => sq_of (h.2 _ _ hM)) ?_ ?_
        · rintro j x σ H9 H10 hj ⟨⟨v1, v5, v6, v7, v8, rfl⟩, e9⟩ ⟨rfl, ex⟩
          rw [List.map_map, List.getElem?_map] at ex
          cases el : ms[j]? with
          | none => rw [el] at ex; cases ex
          | some l =>
            rw [el] at ex
            cases ex
            obtain ⟨hl, hl6⟩ := hls' l (List.mem_of_getElem? el)
            walk_at "hx go"
            refine g_srcL (sq_of (e9 _ _ hM)) ?_
            refine for_it (walk_list (xs := (ms.map S).map V.str)) (fun j σ H11 => (∃ v1 v6 v7 v8, σ = [some (.ref a), v1, some (.ref p), some (.int (1 + (d : Nat))), some (.ref D), some (.str (S l)), v6, v7, v8]) ∧ Same H8 H11) ⟨⟨_, _, _, _, rfl⟩, e9⟩ (fun _ _ _ _ h => sq_of (h.2 _ _ hM)) ?_ ?_
            · rintro j2 x σ H11 H12 hj2 ⟨⟨v1, v6, v7, v8, rfl⟩, e11⟩ ⟨rfl, ex⟩
              rw [List.map_map, List.getElem?_map] at ex
              cases el2 : ms[j2]? with
              | none => rw [el2] at ex; cases ex
              | some m =>
                rw [el2] at ex
                cases ex
                obtain ⟨hm, hm6⟩ := hls' m (List.mem_of_getElem? el2)
                walk_at "hx go"
                refine ⟨l, rfl, hl, by omega, fun t1 H13 e13 ht1 => ?_⟩
                walk_at "hx go"
                refine ⟨m, rfl, hm, by omega, fun t2 H14 e14 ht2 => ?_⟩
                refine g_ltD (.tup (st_of (e14 _ _ ht1)) (.cons (.int _) (.cons (.int _) .nil))) (.tup (st_of ht2) (.cons (.int _) (.cons (.int _) .nil))) rfl (fun e => by cases e) (by simp [PyData.depth, PyData.depthAll]) ?_
                rw [lt_ints2, pre_rk hl hm]
                walk_at "hx go"
                refine ⟨l, m, rfl, hl, hm, by omega, by omega, fun H15 e15 => ?_⟩
                walk_at "hx go"
                refine g_byN (fun h => absurd rfl h) fun _ => ?_
                walk_at "hx go"
                refine ⟨l, m, rfl, hl, hm, by omega, by omega, fun H16 e16 => ?_⟩
                walk_at "hx go"
                refine g_byN (fun h => absurd rfl h) fun _ => ?_
                exact ⟨⟨_, _, _, _, rfl⟩, (((e11.trans e13).trans e14).trans e15).trans e16⟩
            · rintro σ H11 ⟨⟨v1, v6, v7, v8, rfl⟩, e11⟩
              exact ⟨⟨_, _, _, _, _, rfl⟩, e11⟩
        · rintro σ H9 ⟨⟨v1, v5, v6, v7, v8, rfl⟩, e9⟩
          exact ⟨⟨_, _, _, _, _, _, _, _, rfl⟩, (e2.trans e8).trans e9⟩
    · rintro σ H2 ⟨⟨v1, v2, v3, v4, v5, v6, v7, v8, rfl⟩, e2⟩
      walk_at "hx go"
      exact q H2

end
theorem all_mk {l : PySem.W.OpenLaw} {w : World} {K : PySem.W.Frag} {h : Heap} {mg : Str → Option Value} {fa : Addr} (X : K.In h) (G : h.Ns mainGlobals mg) (hfa : mg "law" = some (.ref fa))
    {f_sort_key f_is_path f_require_path f_precedes f_law_rank f_law_take f_law_path f_law_pool f_law : Addr}
    {od_sort_key an_sort_key od_is_path an_is_path od_require_path an_require_path od_precedes an_precedes od_law_rank an_law_rank od_law_take an_law_take od_law_path an_law_path od_law_pool an_law_pool od_law an_law : Option Addr}
    {sl_sort_key sl_is_path sl_require_path sl_precedes sl_law_rank sl_law_take sl_law_path sl_law_pool sl_law : Array (Option Value)}
    {oc_sort_key kV_sort_key dc_sort_key pm_sort_key cd_sort_key ct_sort_key oc_is_path kV_is_path dc_is_path pm_is_path cd_is_path ct_is_path oc_require_path kV_require_path dc_require_path pm_require_path cd_require_path ct_require_path oc_precedes kV_precedes dc_precedes pm_precedes cd_precedes ct_precedes oc_law_rank kV_law_rank dc_law_rank pm_law_rank cd_law_rank ct_law_rank oc_law_take kV_law_take dc_law_take pm_law_take cd_law_take ct_law_take oc_law_path kV_law_path dc_law_path pm_law_path cd_law_path ct_law_path oc_law_pool kV_law_pool dc_law_pool pm_law_pool cd_law_pool ct_law_pool oc_law kV_law dc_law pm_law cd_law ct_law : Value}
    {t_MAX_STEPS : Tok}
    {t_STEPS : Tok}
    (a_sort_key : PySem.W.nsIn K mainGlobals "sort_key" = some (some (.ref f_sort_key)))
    (l_sort_key : K.lookup f_sort_key = some ⟨oc_sort_key, od_sort_key, .func (PySem.W.fnOf "sort_key" "sort_key" (defArgs s_sort_key) (defBody s_sort_key) (defScope s_sort_key) .none kV_sort_key dc_sort_key pm_sort_key an_sort_key cd_sort_key ct_sort_key), sl_sort_key⟩)
    (c_sort_key : PySem.W.codeIn K cd_sort_key "sort_key" = true)
    (k_sort_key : PySem.W.keepIn K (.ref f_sort_key) = true)
    (a_is_path : PySem.W.nsIn K mainGlobals "is_path" = some (some (.ref f_is_path)))
    (l_is_path : K.lookup f_is_path = some ⟨oc_is_path, od_is_path, .func (PySem.W.fnOf "is_path" "is_path" (defArgs s_is_path) (defBody s_is_path) (defScope s_is_path) .none kV_is_path dc_is_path pm_is_path an_is_path cd_is_path ct_is_path), sl_is_path⟩)
    (c_is_path : PySem.W.codeIn K cd_is_path "is_path" = true)
    (k_is_path : PySem.W.keepIn K (.ref f_is_path) = true)
    (a_require_path : PySem.W.nsIn K mainGlobals "require_path" = some (some (.ref f_require_path)))
    (l_require_path : K.lookup f_require_path = some ⟨oc_require_path, od_require_path, .func (PySem.W.fnOf "require_path" "require_path" (defArgs s_require_path) (defBody s_require_path) (defScope s_require_path) .none kV_require_path dc_require_path pm_require_path an_require_path cd_require_path ct_require_path), sl_require_path⟩)
    (c_require_path : PySem.W.codeIn K cd_require_path "require_path" = true)
    (k_require_path : PySem.W.keepIn K (.ref f_require_path) = true)
    (a_precedes : PySem.W.nsIn K mainGlobals "precedes" = some (some (.ref f_precedes)))
    (l_precedes : K.lookup f_precedes = some ⟨oc_precedes, od_precedes, .func (PySem.W.fnOf "precedes" "precedes" (defArgs s_precedes) (defBody s_precedes) (defScope s_precedes) .none kV_precedes dc_precedes pm_precedes an_precedes cd_precedes ct_precedes), sl_precedes⟩)
    (c_precedes : PySem.W.codeIn K cd_precedes "precedes" = true)
    (k_precedes : PySem.W.keepIn K (.ref f_precedes) = true)
    (a_law_rank : PySem.W.nsIn K mainGlobals "_law_rank" = some (some (.ref f_law_rank)))
    (l_law_rank : K.lookup f_law_rank = some ⟨oc_law_rank, od_law_rank, .func (PySem.W.fnOf "_law_rank" "_law_rank" (defArgs s_law_rank) (defBody s_law_rank) (defScope s_law_rank) .none kV_law_rank dc_law_rank pm_law_rank an_law_rank cd_law_rank ct_law_rank), sl_law_rank⟩)
    (c_law_rank : PySem.W.codeIn K cd_law_rank "_law_rank" = true)
    (k_law_rank : PySem.W.keepIn K (.ref f_law_rank) = true)
    (a_law_take : PySem.W.nsIn K mainGlobals "_law_take" = some (some (.ref f_law_take)))
    (l_law_take : K.lookup f_law_take = some ⟨oc_law_take, od_law_take, .func (PySem.W.fnOf "_law_take" "_law_take" (defArgs s_law_take) (defBody s_law_take) (defScope s_law_take) .none kV_law_take dc_law_take pm_law_take an_law_take cd_law_take ct_law_take), sl_law_take⟩)
    (c_law_take : PySem.W.codeIn K cd_law_take "_law_take" = true)
    (k_law_take : PySem.W.keepIn K (.ref f_law_take) = true)
    (a_law_path : PySem.W.nsIn K mainGlobals "_law_path" = some (some (.ref f_law_path)))
    (l_law_path : K.lookup f_law_path = some ⟨oc_law_path, od_law_path, .func (PySem.W.fnOf "_law_path" "_law_path" (defArgs s_law_path) (defBody s_law_path) (defScope s_law_path) .none kV_law_path dc_law_path pm_law_path an_law_path cd_law_path ct_law_path), sl_law_path⟩)
    (c_law_path : PySem.W.codeIn K cd_law_path "_law_path" = true)
    (k_law_path : PySem.W.keepIn K (.ref f_law_path) = true)
    (a_law_pool : PySem.W.nsIn K mainGlobals "_law_pool" = some (some (.ref f_law_pool)))
    (l_law_pool : K.lookup f_law_pool = some ⟨oc_law_pool, od_law_pool, .func (PySem.W.fnOf "_law_pool" "_law_pool" (defArgs s_law_pool) (defBody s_law_pool) (defScope s_law_pool) .none kV_law_pool dc_law_pool pm_law_pool an_law_pool cd_law_pool ct_law_pool), sl_law_pool⟩)
    (c_law_pool : PySem.W.codeIn K cd_law_pool "_law_pool" = true)
    (k_law_pool : PySem.W.keepIn K (.ref f_law_pool) = true)
    (a_law : PySem.W.nsIn K mainGlobals "law" = some (some (.ref f_law)))
    (l_law : K.lookup f_law = some ⟨oc_law, od_law, .func (PySem.W.fnOf "law" "law" (defArgs s_law) (defBody s_law) (defScope s_law) .none kV_law dc_law pm_law an_law cd_law ct_law), sl_law⟩)
    (c_law : PySem.W.codeIn K cd_law "law" = true)
    (k_law : PySem.W.keepIn K (.ref f_law) = true)
    (n_MAX_STEPS : PySem.W.nsIn K mainGlobals "MAX_STEPS" = some (some (.int 400 t_MAX_STEPS)))
    (n_STEPS : PySem.W.nsIn K mainGlobals "STEPS" = some (some (.str "aAbBcCdD" t_STEPS)))
    (z_all : PySem.W.nsIn K mainGlobals "all" = some none)
    (z_int : PySem.W.nsIn K mainGlobals "int" = some none)
    (z_isinstance : PySem.W.nsIn K mainGlobals "isinstance" = some none)
    (z_len : PySem.W.nsIn K mainGlobals "len" = some none)
    (z_max : PySem.W.nsIn K mainGlobals "max" = some none)
    (z_min : PySem.W.nsIn K mainGlobals "min" = some none)
    (z_range : PySem.W.nsIn K mainGlobals "range" = some none)
    (z_repr : PySem.W.nsIn K mainGlobals "repr" = some none)
    (z_str : PySem.W.nsIn K mainGlobals "str" = some none) :
    ∃ fd : FuncData, (∀ (s : Shared) (v : Value), BindsTo s fd ⟨[v], []⟩ [("_law_script", v)]) ∧ ∀ base : Heap, K.In base → base.Ns mainGlobals mg → FnOk l.prog w K mg base CX0 4 fa fd ["_law_script"] (sp_law K) := by
  have e := hfa.symm.trans (PySem.W.mg_of X G a_law)
  cases e
  have T : Txt K mg ⟨f_sort_key, PySem.W.fnOf "sort_key" "sort_key" (defArgs s_sort_key) (defBody s_sort_key) (defScope s_sort_key) .none kV_sort_key dc_sort_key pm_sort_key an_sort_key cd_sort_key ct_sort_key, f_is_path, PySem.W.fnOf "is_path" "is_path" (defArgs s_is_path) (defBody s_is_path) (defScope s_is_path) .none kV_is_path dc_is_path pm_is_path an_is_path cd_is_path ct_is_path, f_require_path, PySem.W.fnOf "require_path" "require_path" (defArgs s_require_path) (defBody s_require_path) (defScope s_require_path) .none kV_require_path dc_require_path pm_require_path an_require_path cd_require_path ct_require_path, f_precedes, PySem.W.fnOf "precedes" "precedes" (defArgs s_precedes) (defBody s_precedes) (defScope s_precedes) .none kV_precedes dc_precedes pm_precedes an_precedes cd_precedes ct_precedes, f_law_rank, PySem.W.fnOf "_law_rank" "_law_rank" (defArgs s_law_rank) (defBody s_law_rank) (defScope s_law_rank) .none kV_law_rank dc_law_rank pm_law_rank an_law_rank cd_law_rank ct_law_rank, f_law_take, PySem.W.fnOf "_law_take" "_law_take" (defArgs s_law_take) (defBody s_law_take) (defScope s_law_take) .none kV_law_take dc_law_take pm_law_take an_law_take cd_law_take ct_law_take, f_law_path, PySem.W.fnOf "_law_path" "_law_path" (defArgs s_law_path) (defBody s_law_path) (defScope s_law_path) .none kV_law_path dc_law_path pm_law_path an_law_path cd_law_path ct_law_path, f_law_pool, PySem.W.fnOf "_law_pool" "_law_pool" (defArgs s_law_pool) (defBody s_law_pool) (defScope s_law_pool) .none kV_law_pool dc_law_pool pm_law_pool an_law_pool cd_law_pool ct_law_pool, fa, PySem.W.fnOf "law" "law" (defArgs s_law) (defBody s_law) (defScope s_law) .none kV_law dc_law pm_law an_law cd_law ct_law⟩ := {
    f_sort_key := fun_mk (st := s_sort_key) l_sort_key c_sort_key k_sort_key
    g_sort_key := PySem.W.mg_of X G a_sort_key
    b_sort_key := (fun_mk (st := s_sort_key) l_sort_key c_sort_key k_sort_key).binds (ps := ["path"]) fun _ _ _ _ _ _ us hl => match us, hl with | [_], _ => rfl
    f_is_path := fun_mk (st := s_is_path) l_is_path c_is_path k_is_path
    g_is_path := PySem.W.mg_of X G a_is_path
    b_is_path := (fun_mk (st := s_is_path) l_is_path c_is_path k_is_path).binds (ps := ["value"]) fun _ _ _ _ _ _ us hl => match us, hl with | [_], _ => rfl
    f_require_path := fun_mk (st := s_require_path) l_require_path c_require_path k_require_path
    g_require_path := PySem.W.mg_of X G a_require_path
    b_require_path := (fun_mk (st := s_require_path) l_require_path c_require_path k_require_path).binds (ps := ["value"]) fun _ _ _ _ _ _ us hl => match us, hl with | [_], _ => rfl
    f_precedes := fun_mk (st := s_precedes) l_precedes c_precedes k_precedes
    g_precedes := PySem.W.mg_of X G a_precedes
    b_precedes := (fun_mk (st := s_precedes) l_precedes c_precedes k_precedes).binds (ps := ["first", "second"]) fun _ _ _ _ _ _ us hl => match us, hl with | [_, _], _ => rfl
    f_law_rank := fun_mk (st := s_law_rank) l_law_rank c_law_rank k_law_rank
    g_law_rank := PySem.W.mg_of X G a_law_rank
    b_law_rank := (fun_mk (st := s_law_rank) l_law_rank c_law_rank k_law_rank).binds (ps := ["_law_path_here"]) fun _ _ _ _ _ _ us hl => match us, hl with | [_], _ => rfl
    f_law_take := fun_mk (st := s_law_take) l_law_take c_law_take k_law_take
    g_law_take := PySem.W.mg_of X G a_law_take
    b_law_take := (fun_mk (st := s_law_take) l_law_take c_law_take k_law_take).binds (ps := ["_law_pool_here", "_law_many"]) fun _ _ _ _ _ _ us hl => match us, hl with | [_, _], _ => rfl
    f_law_path := fun_mk (st := s_law_path) l_law_path c_law_path k_law_path
    g_law_path := PySem.W.mg_of X G a_law_path
    b_law_path := (fun_mk (st := s_law_path) l_law_path c_law_path k_law_path).binds (ps := ["_law_pool_here", "_law_most", "_law_letters"]) fun _ _ _ _ _ _ us hl => match us, hl with | [_, _, _], _ => rfl
    f_law_pool := fun_mk (st := s_law_pool) l_law_pool c_law_pool k_law_pool
    g_law_pool := PySem.W.mg_of X G a_law_pool
    b_law_pool := (fun_mk (st := s_law_pool) l_law_pool c_law_pool k_law_pool).binds (ps := ["_law_script", "_law_k"]) fun _ _ _ _ _ _ us hl => match us, hl with | [_, _], _ => rfl
    f_law := fun_mk (st := s_law) l_law c_law k_law
    g_law := PySem.W.mg_of X G a_law
    b_law := (fun_mk (st := s_law) l_law c_law k_law).binds (ps := ["_law_script"]) fun _ _ _ _ _ _ us hl => match us, hl with | [_], _ => rfl
    kb_precedes_second_first := ⟨fun s us ws _ hl => (match us, ws, hl with | [], [_, _], _ => .of_eq rfl), kg_precedes_second_first_rel⟩
    c_MAX_STEPS := ⟨_, PySem.W.mg_of X G n_MAX_STEPS⟩
    c_STEPS := ⟨_, PySem.W.mg_of X G n_STEPS⟩
    z_all := PySem.W.mg_none_of X G z_all
    z_int := PySem.W.mg_none_of X G z_int
    z_isinstance := PySem.W.mg_none_of X G z_isinstance
    z_len := PySem.W.mg_none_of X G z_len
    z_max := PySem.W.mg_none_of X G z_max
    z_min := PySem.W.mg_none_of X G z_min
    z_range := PySem.W.mg_none_of X G z_range
    z_repr := PySem.W.mg_none_of X G z_repr
    z_str := PySem.W.mg_none_of X G z_str }
  exact ⟨_, fun s v => .of_eq rfl, fun base _ _ => ok_law T⟩
end Pf
open PySem PySem.W PyProof.Rows
set_option maxRecDepth 100000 in
set_option maxHeartbeats 0 in
theorem PySem.Challenge.cw_walkshome_k03_path_order_holds : PySem.Challenge.rw_walkshome_k03_path_order.Holds := by
  w_on; o_law; k_head; (case hw => w_witness2)
  k_fill
  refine L2.walk_of (l := PySem.Challenge.rw_walkshome_k03_path_order) (n := 63) (k := 4) (x := "_law_script") (CX := fun _ => L2.CX0) (sp := fun w => Pf.sp_law _) rfl (by decide) rfl ⟨rfl, by decide, by decide⟩ (fun w h Y => PySem.W.kIn_of Y) ?F (fun _ _ a ns hl _ hS => ⟨a, ns, rfl, hS, hl, fun _ => rfl⟩) (fun _ _ _ _ _ h => h)
  case F =>
    intro w mg fa h KX G hmg
    refine' Pf.all_mk KX G hmg ?a_sort_key ?l_sort_key ?c_sort_key ?k_sort_key ?a_is_path ?l_is_path ?c_is_path ?k_is_path ?a_require_path ?l_require_path ?c_require_path ?k_require_path ?a_precedes ?l_precedes ?c_precedes ?k_precedes ?a_law_rank ?l_law_rank ?c_law_rank ?k_law_rank ?a_law_take ?l_law_take ?c_law_take ?k_law_take ?a_law_path ?l_law_path ?c_law_path ?k_law_path ?a_law_pool ?l_law_pool ?c_law_pool ?k_law_pool ?a_law ?l_law ?c_law ?k_law ?n_MAX_STEPS ?n_STEPS ?z_all ?z_int ?z_isinstance ?z_len ?z_max ?z_min ?z_range ?z_repr ?z_str
    (case a_sort_key => k_is)
    (case l_sort_key => k_is)
    (case c_sort_key => k_is)
    (case k_sort_key => k_is)
    (case a_is_path => k_is)
    (case l_is_path => k_is)
    (case c_is_path => k_is)
    (case k_is_path => k_is)
    (case a_require_path => k_is)
    (case l_require_path => k_is)
    (case c_require_path => k_is)
    (case k_require_path => k_is)
    (case a_precedes => k_is)
    (case l_precedes => k_is)
    (case c_precedes => k_is)
    (case k_precedes => k_is)
    (case a_law_rank => k_is)
    (case l_law_rank => k_is)
    (case c_law_rank => k_is)
    (case k_law_rank => k_is)
    (case a_law_take => k_is)
    (case l_law_take => k_is)
    (case c_law_take => k_is)
    (case k_law_take => k_is)
    (case a_law_path => k_is)
    (case l_law_path => k_is)
    (case c_law_path => k_is)
    (case k_law_path => k_is)
    (case a_law_pool => k_is)
    (case l_law_pool => k_is)
    (case c_law_pool => k_is)
    (case k_law_pool => k_is)
    (case a_law => k_is)
    (case l_law => k_is)
    (case c_law => k_is)
    (case k_law => k_is)
    (case n_MAX_STEPS => k_is)
    (case n_STEPS => k_is)
    (case z_all => k_is)
    (case z_int => k_is)
    (case z_isinstance => k_is)
    (case z_len => k_is)
    (case z_max => k_is)
    (case z_min => k_is)
    (case z_range => k_is)
    (case z_repr => k_is)
    (case z_str => k_is)
#print axioms PySem.Challenge.cw_walkshome_k03_path_order_holds
