import PyProof.Rows.All
import Wide.All
import OpenK.AllK
import Wide.FinOn
import HandS.ForMost
import HandS.ForExc
import HandS.Walk
import HandS.IsInst
import HandS.StrMore
import HandS.Flow
import HandS.Style
import HandS.RaiseMore
import HandS.TupLe
import HandS.Deep
import HandS.Replace
import KE.LtData
import HandS.Words
import HandS.WordsExc
import HandS.Ends
import HandS.Text
import HandS.ExcInit
import HandS.ExcField
import HandS.TryMany
import KE.KExcInit
import KE.KExcIs
import KE.KExcLine
import KE.RegKIsAll
import HandS.ExcIs
import OpenK.KCls
import KE.GoesMore
import PyProof.EnumMake
import PyProof.ListStr
import KE.KUnpackStar
import PySem.Challenge.RW_walkshome_k21_derivation_checker
set_option Elab.async false
set_option linter.all false
set_option maxRecDepth 100000
set_option maxHeartbeats 4000000
namespace Hx
open PySem PySem.Spec PyProof.Rows L2
/-! ## heaps -/
section
variable {H H1 H2 : Hp} {a p : Addr} {o u : HO} {K : PySem.W.Frag} {xs : List V}
theorem u_old (np : H p = none) (h : H a = some o) : upd H p u a = some o := by rw [upd_ne (ne_of_none h np)]; exact h
theorem u_oth (ne : a ≠ p) (h : H a = some o) : upd H p u a = some o := by rw [upd_ne ne]; exact h
theorem u_oth' (ne : p ≠ a) (h : H a = some o) : upd H p u a = some o := u_oth ne.symm h
theorem s_new (e : Same H H1) (np : H1 p = none) : Same H (upd H1 p u) := fun b x q => u_old np (e b x q)
theorem s_mut (e : Same H H1) (np : H p = none) : Same H (upd H1 p u) := fun b x q => by rw [upd_ne (ne_of_none q np)]; exact e b x q
theorem sq_of (h : H a = some (.lst xs)) : SqL K H a xs := .inl (.inl h)
theorem st_of (h : H a = some (.tup xs)) : SqT K H a xs := .inl (.inl h)
theorem sq_same (e : Same H H1) (h : SqL K H a xs) : SqL K H1 a xs := e.seq h
theorem sq_old (np : H p = none) (h : SqL K H a xs) : SqL K (upd H p u) a xs := (s_new (Same.refl H) np).seq h
theorem sq_oth (ne : a ≠ p) (h : SqL K H a xs) : SqL K (upd H p u) a xs := by
  rcases h with (h | ⟨o, h⟩) | h
  · exact .inl (.inl (u_oth ne h))
  · exact .inl (.inr ⟨o, u_oth ne h⟩)
  · exact .inr h
theorem f_same (e : Same H H1) (h : H1 p = none) : H p = none := e.free h
theorem f_upd (h : upd H p u a = none) : H a = none := by
  by_cases e : a = p
  · subst e; rw [upd_same] at h; cases h
  · rw [upd_ne e] at h; exact h
theorem n_upd (h : upd H p u a = none) : a ≠ p := fun e => by subst e; rw [upd_same] at h; cases h
theorem f_u2 {p2 : Addr} {u2 : HO} (h : upd (upd H p u) p2 u2 a = none) : H a = none := f_upd (f_upd h)
theorem f_u3 {p2 p3 : Addr} {u2 u3 : HO} (h : upd (upd (upd H p u) p2 u2) p3 u3 a = none) : H a = none := f_upd (f_u2 h)
theorem f_u4 {p2 p3 p4 : Addr} {u2 u3 u4 : HO} (h : upd (upd (upd (upd H p u) p2 u2) p3 u3) p4 u4 a = none) : H a = none := f_upd (f_u3 h)
theorem f_u5 {p2 p3 p4 p5 : Addr} {u2 u3 u4 u5 : HO} (h : upd (upd (upd (upd (upd H p u) p2 u2) p3 u3) p4 u4) p5 u5 a = none) : H a = none := f_upd (f_u4 h)
theorem f_u6 {p2 p3 p4 p5 p6 : Addr} {u2 u3 u4 u5 u6 : HO} (h : upd (upd (upd (upd (upd (upd H p u) p2 u2) p3 u3) p4 u4) p5 u5) p6 u6 a = none) : H a = none := f_upd (f_u5 h)
theorem n_u2 {p2 : Addr} {u2 : HO} (h : upd (upd H p u) p2 u2 a = none) : a ≠ p := fun e => by subst e; have := f_upd h; rw [upd_same] at this; cases this
theorem n_u3 {p2 p3 : Addr} {u2 u3 : HO} (h : upd (upd (upd H p u) p2 u2) p3 u3 a = none) : a ≠ p := n_u2 (f_upd h)
theorem n_u4 {p2 p3 p4 : Addr} {u2 u3 u4 : HO} (h : upd (upd (upd (upd H p u) p2 u2) p3 u3) p4 u4 a = none) : a ≠ p := n_u3 (f_upd h)
theorem n_u5 {p2 p3 p4 p5 : Addr} {u2 u3 u4 u5 : HO} (h : upd (upd (upd (upd (upd H p u) p2 u2) p3 u3) p4 u4) p5 u5 a = none) : a ≠ p := n_u4 (f_upd h)
theorem n_at (h : H p = some o) (n : H a = none) : a ≠ p := fun e => by rw [e, h] at n; cases n
theorem f_new (ne : a ≠ p) (h : H a = none) : upd H p u a = none := by rw [upd_ne ne]; exact h
/-- all but p is kept -/
def But (p : Addr) (H H' : Hp) : Prop := ∀ b o, b ≠ p → H b = some o → H' b = some o
theorem But.refl (p : Addr) (H : Hp) : But p H H := fun _ _ _ h => h
theorem But.of (e : Same H H1) : But p H H1 := fun b o _ h => e b o h
theorem But.trans (e : But p H H1) (f : But p H1 H2) : But p H H2 := fun b o n h => f b o n (e b o n h)
theorem But.new {q : Addr} (e : But p H H1) (nq : H1 q = none) : But p H (upd H1 q u) := fun b o n h => u_old nq (e b o n h)
theorem But.mut {q : Addr} (e : But p H H1) (nq : H q = none) : But p H (upd H1 q u) := fun b o n h => by rw [upd_ne (ne_of_none h nq)]; exact e b o n h
theorem But.own (e : But p H H1) : But p H (upd H1 p u) := fun b o n h => by rw [upd_ne n]; exact e b o n h
theorem But.seq (e : But p H H1) (n : a ≠ p) (h : SqL K H a xs) : SqL K H1 a xs := by
  rcases h with (h | ⟨o, h⟩) | h
  · exact .inl (.inl (e _ _ n h))
  · exact .inl (.inr ⟨o, e _ _ n h⟩)
  · exact .inr h
/-- behind But p, what was p's is new: But p becomes Same where p is new -/
theorem But.same (e : But p H1 H2) (f : Same H H1) (np : H p = none) : Same H H2 := fun b o h => e b o (ne_of_none h np) (f b o h)
theorem But.free (e : But p H H1) {b : Addr} (n : b ≠ p) (h : H1 b = none) : H b = none := by
  cases q : H b with
  | none => rfl
  | some o => rw [e b o n q] at h; cases h
end
/-! ## readings -/
section
variable {σ : L2.St} {H : Hp} {Q : VK} {v x y z : V} {ta tb te tc : TE} {D : Ends} {t u : TS} {c d : TT} {K : PySem.W.Frag} {p a : Addr} {i j : Int} {k : Nat} {xs : List V} {B : Bool → Hp → Prop} {QA : List V → Hp → Prop} {r : R2}
theorem g_var (e : σ[k]? = some (some v)) (q : Q v H) : tVar k σ H Q := ⟨v, e, q⟩
theorem g_c (q : Q v H) : tC v σ H Q := q
theorem g_op (q : ta σ H fun x H1 => tb σ H1 fun y H2 => r x y H2 Q) : tOp r ta tb σ H Q := q
theorem g_un {r : V → Hp → VK → Prop} (q : ta σ H fun x H1 => r x H1 Q) : tUn r ta σ H Q := q
theorem g_seq (q : t { D with nx := u D } σ H) : tSeq t u D σ H := q
theorem g_next (q : D.nx σ H) : tNext D σ H := q
theorem g_brk (q : D.bk σ H) : tBreak D σ H := q
theorem g_cont (q : D.ct σ H) : tCont D σ H := q
theorem g_asg {g : TG} (q : te σ H fun x H1 => g x σ H1 D.nx) : tAsg te g D σ H := q
theorem g_name {Q : L2.St → Hp → Prop} (q : Q (σ.set k (some v)) H) : gName k v σ H Q := q
theorem g_drop (q : te σ H fun _ H1 => D.nx σ H1) : tDrop te D σ H := q
theorem g_ret (q : te σ H D.rt) : tRet te D σ H := q
theorem g_retN (q : D.rt .non H) : tRetN D σ H := q
theorem g_ifS (q : c σ H fun b H1 => if b = true then t D σ H1 else u D σ H1) : tIfS c t u D σ H := q
theorem g_if (q : c σ H fun b H1 => if b = true then ta σ H1 Q else tb σ H1 Q) : tIf c ta tb σ H Q := q
theorem g_test (q : te σ H fun x H' => ∃ k, x = .bl k ∧ B k H') : tTest te σ H B := q
theorem g_tB (q : te σ H fun x H' => ∃ k, x = .bl k ∧ B k H') : tB te σ H B := q
theorem g_exb {b : Bool} {P : Bool → Prop} (q : P b) : ∃ k, V.bl b = .bl k ∧ P k := ⟨b, rfl, q⟩
theorem g_and (q : c σ H fun b H1 => if b = true then d σ H1 B else B false H1) : tAnd c d σ H B := q
theorem g_or (q : c σ H fun b H1 => if b = true then B true H1 else d σ H1 B) : tOr c d σ H B := q
theorem g_not (q : c σ H fun b H1 => B (!b) H1) : tNot c σ H B := q
theorem g_andV (q : ta σ H fun x H1 => ∃ c, x = .bl c ∧ if c = true then tb σ H1 Q else Q (.bl false) H1) : tAndV ta tb σ H Q := q
theorem g_orV (q : ta σ H fun x H1 => ∃ c, x = .bl c ∧ if c = true then Q (.bl true) H1 else tb σ H1 Q) : tOrV ta tb σ H Q := q
theorem g_notV (q : ta σ H fun x H1 => ∃ c, x = .bl c ∧ Q (.bl (!c)) H1) : tNotV ta σ H Q := q
theorem g_nil (q : QA [] H) : tNil σ H QA := q
theorem g_cons {tr : TA} (q : ta σ H fun x H1 => tr σ H1 fun xs H2 => QA (x :: xs) H2) : tCons ta tr σ H QA := q
theorem g_tup {t : TA} (q : t σ H fun xs H1 => xs.length ≤ sizeLine ∧ ∀ p, H1 p = none → Q (.ref p) (upd H1 p (.tup xs))) : tTup t σ H Q := q
theorem g_lst {t : TA} (q : t σ H fun xs H1 => xs.length ≤ sizeLine ∧ ∀ p, H1 p = none → Q (.ref p) (upd H1 p (.lst xs))) : tLst t σ H Q := q
theorem g_sz {R : Prop} (h : xs.length ≤ 1000) (q : R) : xs.length ≤ sizeLine ∧ R := ⟨Nat.le_trans h (by decide), q⟩
theorem g_call {sp : Sp} {dvs : List V} {E : XK} {t : TA} (q : t σ H fun vs H1 => sp (vs ++ dvs) H1 Q E) : tCall sp dvs E t σ H Q := q
theorem g_callK {sp : Sp} {gV} {E : XK} {t tk : TA} (q : t σ H fun vs H1 => tk σ H1 fun zs H2 => sp (gV vs zs) H2 Q E) : tCallK sp gV E t tk σ H Q := q
theorem g_CB {r : List V → Hp → VK → Prop} {t : TA} (q : t σ H fun vs H1 => r vs H1 Q) : tCB r t σ H Q := q
theorem g_chain {r r' : R2} (q : ta σ H fun x H1 => tb σ H1 fun y H2 => r x y H2 fun z H3 => ∃ k, z = .bl k ∧ (if k = true then tc σ H3 fun w' H4 => r' y w' H4 Q else Q (.bl false) H3)) : tChain r r' ta tb tc σ H Q := q
theorem g_sl {r} {tl th : TO} (q : te σ H fun x H1 => tl σ H1 fun l H2 => th σ H2 fun u H3 => r x l u H3 Q) : tSl r te tl th σ H Q := q
theorem g_nopart {QO : Option Int → Hp → Prop} (q : QO none H) : tNoPart σ H QO := q
theorem g_part {QO : Option Int → Hp → Prop} (q : te σ H fun x H1 => ∃ i, x = .int i ∧ QO (some i) H1) : tPart te σ H QO := q
theorem g_exi {P : Int → Prop} (q : P i) : ∃ k, V.int i = .int k ∧ P k := ⟨i, rfl, q⟩
theorem g_bm {T : String} {r} {to : TE} {t : TA} (q : to σ H fun x H1 => tyV K T x H1 ∧ t σ H1 fun xs H2 => r x xs H2 Q) : tBM K T r to t σ H Q := q
theorem g_bm0 {T : String} {r} {to : TE} (q : to σ H fun x H1 => tyV K T x H1 ∧ r x [] H1 Q) : tBM0 K T r to σ H Q := q
theorem g_m0 {r} {to : TE} (q : to σ H fun x H1 => (∃ a, x = .str a) ∧ r x [] H1 Q) : tM0 r to σ H Q := q
theorem g_m1 {r} {to te : TE} (q : to σ H fun x H1 => (∃ a, x = .str a) ∧ te σ H1 fun y H2 => r x [y] H2 Q) : tM1 r to te σ H Q := q
theorem g_exs {s : Str} {R : Prop} (q : R) : (∃ a, V.str s = .str a) ∧ R := ⟨⟨s, rfl⟩, q⟩
theorem g_tyS {s : Str} {R : Prop} (q : R) : tyV K "str" (.str s) H ∧ R := ⟨rfl, q⟩
theorem g_tyL {R : Prop} (h : SqL K H p xs) (q : R) : tyV K "list" (.ref p) H ∧ R := ⟨Or.inl ⟨rfl, _, h⟩, q⟩
theorem g_fld {f : Str} (q : ta σ H fun x H1 => ∃ a C dx fs v, x = .ref a ∧ H1 a = some (.ins C dx fs) ∧ Cls K C ∧ NoAttr K C f ∧ fs.lookup f = some v ∧ Q v H1) : tFld K ta f σ H Q := q
theorem g_meth {C : Addr} {m : Str} {sp : Sp} {dvs : List V} {E : XK} {t : TA} (q : ta σ H fun x H1 => ∃ a dx fs, x = .ref a ∧ H1 a = some (.ins C dx fs) ∧ fs.lookup m = none ∧ t σ H1 fun vs H2 => sp (x :: (vs ++ dvs)) H2 Q E) : tMeth C m sp dvs E ta t σ H Q := q
theorem g_for {wi : TI} {g : TG} {tb : TS} (q : wi σ H fun J H1 => ∃ W : Nat → Nat → L2.St → Hp → Prop, (∃ m, W 0 m σ H1) ∧ ∀ i m σ H, W i m σ H →
      (J.stop i H ∧ D.nx σ H) ∨ (J.go i H ∧ ∃ N : L2.St → Hp → Prop, (∀ σ' H', N σ' H' → ∃ m', m' < m ∧ W (i + 1) m' σ' H') ∧ ∀ x H', J.yld i H x H' → g x σ H' fun σ2 H2 => tb { D with nx := N, ct := N, bk := D.nx } σ2 H2)) : tFor wi g tb D σ H := q
theorem g_lc {wi : TI} {g : TG} {tt : TT} {vs : List Nat} (q : wi σ H fun J H1 => ∀ D, H1 D = none → ∃ W : Nat → Nat → Hp → Prop, (∃ m, W 0 m (upd H1 D (.lst []))) ∧ ∀ i m H, W i m H →
  (J.stop i H ∧ Q (.ref D) H) ∨ (J.go i H ∧ ∃ Nx : Hp → Prop, (∀ H', Nx H' → ∃ m', m' < m ∧ W (i + 1) m' H') ∧ ∀ x H', J.yld i H x H' → g x (wipe σ vs) H' fun σ2 H2 => wipe σ2 vs = wipe σ vs ∧ tt σ2 H2 fun b H3 =>
    if b = true then te σ2 H3 fun y H4 => ∃ acc, H4 D = some (.lst acc) ∧ acc.length < sizeLine ∧ Nx (upd H4 D (.lst (acc ++ [y]))) else Nx H3)) : tLc wi g tt te vs σ H Q := q
theorem g_yes {P : Bool → Hp → Prop} (q : P true H) : tYes σ H P := q
theorem g_aug {ti : TIp} (e : σ[k]? = some (some x)) (q : te σ H fun y H1 => ti x y H1 fun z H2 => D.nx (σ.set k (some z)) H2) : tAug k te ti D σ H := ⟨x, e, q⟩
theorem g_ipI {f : Int → Int → Int} (q : Q (.int (f i j)) H) : ipI f (.int i) (.int j) H Q := ⟨i, j, rfl, rfl, q⟩
/-! sources -/
variable {R : It → Hp → Prop}
theorem g_iList (q : ta σ H fun x H1 => ∃ a, x = .ref a ∧ (∃ xs, SqL K H1 a xs) ∧ R (Itl K a) H1) : iList K ta σ H R := q
theorem g_srcL {P : Addr → Prop} (h : SqL K H a xs) (q : P a) : ∃ a', V.ref a = .ref a' ∧ (∃ xs, SqL K H a' xs) ∧ P a' := ⟨a, rfl, ⟨xs, h⟩, q⟩
theorem g_iStr (q : ta σ H fun v H1 => ∃ x, v = .str x ∧ R (Its x) H1) : iStr ta σ H R := q
theorem g_exstr {s : Str} {P : Str → Prop} (q : P s) : ∃ x, V.str s = .str x ∧ P x := ⟨s, rfl, q⟩
theorem g_iRng1 {t : TA} (q : t σ H fun vs H1 => ∃ j : Int, vs = [.int j] ∧ -(2 ^ 62) ≤ j ∧ j < 2 ^ 62 ∧ R (Itr 0 j.toNat) H1) : iRng1 t σ H R := q
theorem g_srcR {j : Int} {P : Int → Prop} (h : -1000000000 ≤ j ∧ j ≤ 1000000000) (q : P j) : ∃ j' : Int, [V.int j] = [.int j'] ∧ -(2 ^ 62) ≤ j' ∧ j' < 2 ^ 62 ∧ P j' := ⟨j, rfl, by omega, by omega, q⟩
/-! ## operators by values -/
theorem g_rI0 {g : Int → Int → V} (q : Q (g i j) H) : rI0 g (.int i) (.int j) H Q := ⟨i, j, rfl, rfl, q⟩
theorem g_rU {g : Int → V} (q : Q (g i) H) : rU g (.int i) H Q := ⟨i, rfl, q⟩
theorem g_rI {C : Int → Int → Prop} {g : Int → Int → V} (c : C i j) (q : Q (g i j) H) : rI C g (.int i) (.int j) H Q := ⟨i, j, rfl, rfl, c, q⟩
def rAddU : R2 := fun x y H Q => rI0 (fun i j => .int (i + j)) x y H Q ∨ ((∃ i j, x = .str i ∧ y = .str j ∧ i.length + j.length ≤ sizeLine ∧ Q (.str (i ++ j)) H) ∨ rCat x y H Q)
theorem op_addU {X : Cx} : OpR X (binaryOp .Add) rAddU := op_add.or (op_add_str.or op_cat)
theorem g_addI (q : Q (.int (i + j)) H) : rAddU (.int i) (.int j) H Q := .inl ⟨i, j, rfl, rfl, q⟩
theorem g_addS {a b : Str} (h : a.length + b.length ≤ sizeLine) (q : Q (.str (a ++ b)) H) : rAddU (.str a) (.str b) H Q := .inr (.inl ⟨a, b, rfl, rfl, h, q⟩)
theorem g_addL {l b : Addr} {xs zs : List V} (h1 : H l = some (.lst xs)) (h2 : H b = some (.lst zs)) (h : xs.length + zs.length ≤ sizeLine) (q : ∀ p, H p = none → Q (.ref p) (upd H p (.lst (xs ++ zs)))) : rAddU (.ref l) (.ref b) H Q :=
  .inr (.inr ⟨l, b, xs, zs, rfl, rfl, h1, h2, h, q⟩)
theorem g_mul (c : CMul i j) (q : Q (.int (i * j)) H) : rI CMul (fun i j => .int (i * j)) (.int i) (.int j) H Q := ⟨i, j, rfl, rfl, c, q⟩
theorem g_mod (c : 0 < j) (q : Q (.int (i % j)) H) : rI (fun _ j => 0 < j) (fun i j => .int (i % j)) (.int i) (.int j) H Q := ⟨i, j, rfl, rfl, c, q⟩
theorem g_div (c : CDiv i j) (q : Q (.int (i / j)) H) : rI CDiv (fun i j => .int (i / j)) (.int i) (.int j) H Q := ⟨i, j, rfl, rfl, c, q⟩
theorem g_pow (c : CPow i j) (q : Q (.int (i ^ j.toNat)) H) : rI CPow (fun i j => .int (i ^ j.toNat)) (.int i) (.int j) H Q := ⟨i, j, rfl, rfl, c, q⟩
theorem g_eqS (h : scal x y = true) (q : Q (.bl (decide (x = y))) H) : rEq x y H Q := ⟨h, q⟩
theorem g_neS (h : scal x y = true) (q : Q (.bl (!decide (x = y))) H) : rNe x y H Q := ⟨h, q⟩
/-! items: a list, a tuple, a text -/
theorem g_ixL (h : SqL K H p xs) (e : atI xs i = some v) (q : Q v H) : rIx K (.ref p) (.int i) H Q := .inl ⟨p, xs, i, v, rfl, rfl, h, e, q⟩
theorem g_ixT (h : SqT K H p xs) (e : atI xs i = some v) (q : Q v H) : rIx K (.ref p) (.int i) H Q := .inr (.inl ⟨p, xs, i, v, rfl, rfl, h, e, q⟩)
theorem g_ixS {s : Str} {n : Nat} (hl : s.length ≤ sizeLine) (e : atI s.cps.toList i = some n) (q : Q (.str ⟨#[n]⟩) H) : rIx K (.str s) (.int i) H Q := .inr (.inr ⟨s, i, n, rfl, rfl, hl, e, q⟩)
/-! slices: a list, a text -/
def rSlU (K : PySem.W.Frag) : V → Option Int → Option Int → Hp → VK → Prop := fun x lo hi H Q => rSlL K x lo hi H Q ∨ rSlS x lo hi H Q
theorem sl_U {X : Cx} : SlR X (rSlU X.K) := sl_list.or sl_str
theorem g_slL {lo hi : Option Int} (h : SqL K H a xs) (q : ∀ p, H p = none → Q (.ref p) (upd H p (.lst (cutV xs lo hi)))) : rSlU K (.ref a) lo hi H Q := .inl ⟨a, xs, rfl, h, q⟩
theorem g_slS {lo hi : Option Int} {z : Str} (h : z.length ≤ sizeLine) (q : Q (.str (cutS z lo hi)) H) : rSlU K (.str z) lo hi H Q := .inr ⟨z, rfl, h, q⟩
/-! tests -/
theorem g_nT {A B : Prop} (q : B) : if (!true) = true then A else B := q
theorem g_nF {A B : Prop} (q : A) : if (!false) = true then A else B := q
theorem g_yesD {P : Prop} [Decidable P] {A B : Prop} (h : P) (q : A) : if decide P = true then A else B := by rw [if_pos (decide_eq_true h)]; exact q
theorem g_noD {P : Prop} [Decidable P] {A B : Prop} (h : ¬P) (q : B) : if decide P = true then A else B := by rw [if_neg (by simp [h])]; exact q
theorem g_byD {P : Prop} [Decidable P] {A B : Prop} (h1 : P → A) (h2 : ¬P → B) : if decide P = true then A else B := by
  by_cases h : P
  · exact g_yesD h (h1 h)
  · exact g_noD h (h2 h)
theorem g_byN {P : Prop} [Decidable P] {A B : Prop} (h1 : ¬P → A) (h2 : P → B) : if (!decide P) = true then A else B := by
  by_cases h : P
  · rw [if_neg (by simp [h])]; exact h2 h
  · rw [if_pos (by simp [h])]; exact h1 h
theorem g_by {b : Bool} {A B : Prop} (h1 : b = true → A) (h2 : b = false → B) : if b = true then A else B := by
  cases b
  · exact iteF (h2 rfl)
  · exact iteT (h1 rfl)
end
end Hx
namespace Hx
open PySem PySem.Spec PyProof.Rows L2
/-! ## further rules -/
section
variable {X : Cx} {σ : L2.St} {H : Hp} {Q : VK} {K : PySem.W.Frag} {v x y : V} {p a b : Addr} {i j : Int} {xs ys : List V} {z : Str}
theorem pe_gS {n s : Str} {pos : Pos} (h : ∃ t, X.mg n = some (.str s t)) (hg : Gl X n := by rfl) (hd : (n == ("__debug__" : Str)) = false := by decide) : PE X (.Name n pos) (tC (.str s)) := by
  obtain ⟨t, h⟩ := h
  exact pe_glob hg h ⟨t, rfl⟩ hd
theorem pe_gI {n : Str} {i : Int} {pos : Pos} (h : ∃ t, X.mg n = some (.int i t)) (hg : Gl X n := by rfl) (hd : (n == ("__debug__" : Str)) = false := by decide) : PE X (.Name n pos) (tC (.int i)) := by
  obtain ⟨t, h⟩ := h
  exact pe_glob hg h ⟨t, rfl⟩ hd
/-! len -/
def rLenU (K : PySem.W.Frag) : List V → Hp → VK → Prop := fun xs H Q => ∃ x n, xs = [x] ∧ LenV K x H n ∧ Q (.int n) H
theorem call_lenU : CallR X (.builtin "len") (rLenU X.K) := call_len
theorem g_lenS (h : z.length ≤ sizeLine) (q : Q (.int (z.length : Nat)) H) : rLenU K [.str z] H Q := ⟨.str z, _, rfl, ⟨h, rfl⟩, q⟩
theorem g_lenL (h : SqL K H a xs) (q : Q (.int (xs.length : Nat)) H) : rLenU K [.ref a] H Q := ⟨.ref a, _, rfl, .inl ⟨_, h, rfl⟩, q⟩
theorem g_lenT (h : SqT K H a xs) (q : Q (.int (xs.length : Nat)) H) : rLenU K [.ref a] H Q := ⟨.ref a, _, rfl, .inr ⟨_, h, rfl⟩, q⟩
/-! max, min of two ints, all, any -/
def rMaxU (K : PySem.W.Frag) : List V → Hp → VK → Prop := fun xs H Q => (∃ i j, xs = [.int i, .int j] ∧ Q (.int (if j > i then j else i)) H) ∨ rMax K xs H Q
theorem call_maxU (hc : X.calm = true) : CallR X (.builtin "max") (rMaxU X.K) := (call_max2 hc).or (cr_max hc)
theorem g_max2 (q : Q (.int (max i j)) H) : rMaxU K [.int i, .int j] H Q := .inl ⟨i, j, rfl, by
  have e : (if j > i then j else i) = max i j := by split <;> omega
  rw [e]; exact q⟩
def rMinU (K : PySem.W.Frag) : List V → Hp → VK → Prop := fun xs H Q => (∃ i j, xs = [.int i, .int j] ∧ Q (.int (if j < i then j else i)) H) ∨ rMin K xs H Q
theorem call_minU (hc : X.calm = true) : CallR X (.builtin "min") (rMinU X.K) := (call_min2 hc).or (cr_min hc)
theorem g_min2 (q : Q (.int (min i j)) H) : rMinU K [.int i, .int j] H Q := .inl ⟨i, j, rfl, by
  have e : (if j < i then j else i) = min i j := by split <;> omega
  rw [e]; exact q⟩
def rInt1 : List V → Hp → VK → Prop := fun xs H Q => (∃ i, xs = [.int i] ∧ Q (.int i) H) ∨ ∃ k, xs = [.bl k] ∧ Q (.int (if k then 1 else 0)) H
theorem call_int1U : CallR X (.type "int") rInt1 := call_int1
theorem g_intB {k : Bool} (q : Q (.int (if k then 1 else 0)) H) : rInt1 [.bl k] H Q := .inr ⟨k, rfl, q⟩
theorem g_all {bs : List Bool} (h : SqL K H a (bs.map V.bl)) (q : Q (.bl (bs.all id)) H) : rAll K [.ref a] H Q := ⟨a, bs, rfl, h, q⟩
theorem g_any {bs : List Bool} (h : SqL K H a (bs.map V.bl)) (q : Q (.bl (bs.any id)) H) : rAny K [.ref a] H Q := ⟨a, bs, rfl, h, q⟩
/-! isinstance -/
def rIsiU (K : PySem.W.Frag) : List V → Hp → VK → Prop := fun xs H Q => rIsi K xs H Q ∨ rIsiT K xs H Q
theorem call_isiU : CallR X (.builtin "isinstance") (rIsiU X.K) := call_isi.or call_isiT
theorem g_isi {c : V} {t u : Value} {k : Bool} (hc : ClsV c u) (ht : TyX K H x t) (e : PySem.W.kitOne K t u = some k) (q : Q (.bl k) H) : rIsiU K [x, c] H Q := .inl ⟨x, c, t, u, k, rfl, hc, ht, e, q⟩
theorem g_isiT {cs : List V} {t : Value} {us : List Value} {k : Bool} (h : H p = some (.tup cs)) (hc : Paired ClsV cs us) (ht : TyX K H x t) (e : PySem.W.kitAny K t us = some k) (q : Q (.bl k) H) : rIsiU K [x, .ref p] H Q := .inr ⟨x, p, cs, t, us, k, rfl, h, hc, ht, e, q⟩
/-! repr of an int, a bool -/
def rReprU : List V → Hp → VK → Prop := fun xs H Q => (∃ i, xs = [.int i] ∧ i.natAbs.log2 < 1920 ∧ Q (.str (toString i)) H) ∨ ∃ k : Bool, xs = [.bl k] ∧ Q (.str (if k then "True" else "False")) H
theorem call_repr_bool : CallR X (.builtin "repr") (fun xs H Q => ∃ k : Bool, xs = [.bl k] ∧ Q (.str (if k then "True" else "False")) H) := by
  intro pins s σ H xs us Q I r h
  obtain ⟨k, rfl, q⟩ := h
  obtain ⟨u, rfl, ru⟩ := vals1 r
  cases (show u = Value.bool k from ru)
  exact PySem.P.repr_of_bool ⟨.str _, H, I.tok _, ⟨_, rfl⟩, q⟩
theorem call_reprU : CallR X (.builtin "repr") rReprU := SkE.call_repr_int.or call_repr_bool
theorem g_reprB {k : Bool} (q : Q (.str (if k then "True" else "False")) H) : rReprU [.bl k] H Q := .inr ⟨k, rfl, q⟩
/-! == and <, of any data -/
def rEqU (K : PySem.W.Frag) : R2 := fun x y H Q => rEq x y H Q ∨ rEqD K x y H Q
theorem op_eqU (hu : X.A.units + 64 < cLine) : OpR X (compareOp .Eq) (rEqU X.K) := op_eq.or (op_eqD hu)
def rNeU (K : PySem.W.Frag) : R2 := fun x y H Q => rNe x y H Q ∨ rNeD K x y H Q
theorem op_neU (hu : X.A.units + 64 < cLine) : OpR X (compareOp .NotEq) (rNeU X.K) := op_ne.or (op_neD hu)
theorem g_eqU (h : scal x y = true) (q : Q (.bl (decide (x = y))) H) : rEqU K x y H Q := .inl ⟨h, q⟩
theorem g_neU (h : scal x y = true) (q : Q (.bl (!decide (x = y))) H) : rNeU K x y H Q := .inl ⟨h, q⟩
theorem g_eqI (q : Q (.bl (decide (i = j))) H) : rEqU K (.int i) (.int j) H Q := .inl ⟨rfl, by rw [decide_eq_decide.mpr (show V.int i = V.int j ↔ i = j from ⟨V.int.inj, congrArg _⟩)]; exact q⟩
theorem g_neI (q : Q (.bl (!decide (i = j))) H) : rNeU K (.int i) (.int j) H Q := .inl ⟨rfl, by rw [decide_eq_decide.mpr (show V.int i = V.int j ↔ i = j from ⟨V.int.inj, congrArg _⟩)]; exact q⟩
theorem g_eqS2 {s z : Str} (q : Q (.bl (decide (s = z))) H) : rEqU K (.str s) (.str z) H Q := .inl ⟨rfl, by rw [decide_eq_decide.mpr (show V.str s = V.str z ↔ s = z from ⟨V.str.inj, congrArg _⟩)]; exact q⟩
theorem g_neS2 {s z : Str} (q : Q (.bl (!decide (s = z))) H) : rNeU K (.str s) (.str z) H Q := .inl ⟨rfl, by rw [decide_eq_decide.mpr (show V.str s = V.str z ↔ s = z from ⟨V.str.inj, congrArg _⟩)]; exact q⟩
theorem g_eqB {s z : Bool} (q : Q (.bl (decide (s = z))) H) : rEqU K (.bl s) (.bl z) H Q := .inl ⟨rfl, by rw [decide_eq_decide.mpr (show V.bl s = V.bl z ↔ s = z from ⟨V.bl.inj, congrArg _⟩)]; exact q⟩
theorem g_neB {s z : Bool} (q : Q (.bl (!decide (s = z))) H) : rNeU K (.bl s) (.bl z) H Q := .inl ⟨rfl, by rw [decide_eq_decide.mpr (show V.bl s = V.bl z ↔ s = z from ⟨V.bl.inj, congrArg _⟩)]; exact q⟩
theorem g_eqD {d e : PyData} (hd : Dp K H x d) (he : Dp K H y e) (sd : SeqAt.shaped d = true) (se : SeqAt.shaped e = true) (q : Q (.bl (PyData.eqv d e)) H) : rEqU K x y H Q := .inr ⟨d, e, hd, he, sd, se, q⟩
theorem g_neD {d e : PyData} (hd : Dp K H x d) (he : Dp K H y e) (sd : SeqAt.shaped d = true) (se : SeqAt.shaped e = true) (q : Q (.bl (!PyData.eqv d e)) H) : rNeU K x y H Q := .inr ⟨d, e, hd, he, sd, se, q⟩
def rLtD (K : PySem.W.Frag) : R2 := fun x y H Q => ∃ d e, Dp K H x d ∧ Dp K H y e ∧ PySem.W.alike d e = true ∧ d ≠ .none ∧ d.depth ≤ 60 ∧ Q (.bl (PySem.W.dataLt d e)) H
theorem op_ltD (hu : X.A.units + 64 < cLine) : OpR X (compareOp .Lt) (rLtD X.K) := by
  intro pins s σ H x y v u Q I rx ry h
  obtain ⟨d, e, hd, he, al, nn, dp, q⟩ := h
  obtain ⟨as, r1⟩ := Dp.reads I d x v hd rx
  obtain ⟨bs, r2⟩ := Dp.reads I e y u he ry
  exact PySem.W.rcLt_alike d e _ _ _ _ _ _ r1 r2 al nn (by omega) _ _ _ _ ⟨.bl _, H, I, rfl, q⟩
def rLtU (K : PySem.W.Frag) : R2 := fun x y H Q => rI0 (fun i j => .bl (decide (i < j))) x y H Q ∨ rLtD K x y H Q
theorem op_ltU (hu : X.A.units + 64 < cLine) : OpR X (compareOp .Lt) (rLtU X.K) := op_lt.or (op_ltD hu)
theorem g_ltI (q : Q (.bl (decide (i < j))) H) : rLtU K (.int i) (.int j) H Q := .inl ⟨i, j, rfl, rfl, q⟩
theorem g_ltD {d e : PyData} (hd : Dp K H x d) (he : Dp K H y e) (al : PySem.W.alike d e = true) (nn : d ≠ .none) (dp : d.depth ≤ 60) (q : Q (.bl (PySem.W.dataLt d e)) H) : rLtU K x y H Q := .inr ⟨d, e, hd, he, al, nn, dp, q⟩
/-! texts -/
theorem g_inS {c : Nat} {z : Str} (q : Q (.bl (decide (c ∈ z.cps.toList))) H) : (∃ (c' : Nat) (z' : Str), V.str ⟨#[c]⟩ = .str ⟨#[c']⟩ ∧ V.str z = .str z' ∧ Q (.bl (decide (c' ∈ z'.cps.toList))) H) := ⟨c, z, rfl, rfl, q⟩
theorem mt_swapcase : MtR X "str.swapcase" (fun x xs H Q => ∃ a, x = .str a ∧ xs = [] ∧ a.length ≤ 5592405 ∧ Q (.str (Txt.swapcase a)) H) :=
  mt0 (C := fun a => a.length ≤ 5592405) (g := fun a => .str (Txt.swapcase a)) fun a _ s _ hc h =>
    PySem.SC.swapcase (PyProof.Rows.short24 (by have h1 : a.length ≤ 5592405 := hc; have := PyProof.Rows.len_swapcase a; omega)) (h _ (s.toks + 1) ⟨_, rfl⟩)
theorem g_m0c {g : Str → V} {C : Str → Prop} (hc : C z) (q : Q (g z) H) : ∃ a, V.str z = .str a ∧ ([] : List V) = [] ∧ C a ∧ Q (g a) H := ⟨z, rfl, rfl, hc, q⟩
theorem g_join {p : Addr} {l : List Str} (h : SqL K H p (l.map V.str)) (hz : (l.map (·.length)).sum + l.length * z.length ≤ 16777216) (q : Q (.str (Txt.join z l)) H) :
    ∃ a p', ∃ ys : List Str, V.str z = .str a ∧ [V.ref p] = [.ref p'] ∧ (SqL K H p' (ys.map V.str) ∨ SqT K H p' (ys.map V.str)) ∧ (ys.map (·.length)).sum + ys.length * a.length ≤ 16777216 ∧ Q (.str (Txt.join a ys)) H :=
  ⟨z, p, l, rfl, rfl, .inl h, hz, q⟩
/-! keywords alone -/
theorem pe_callK0 {CX : CXT} {k : Nat} {f : Addr} {fd : FuncData} {ps ks : List Str} {sp : Sp} {E : XK} {x : Str} {p pos : Pos} {kws : List Keyword} {tk : TA} {g : List Value → List Value → List Value} {gV : List V → List V → List V}
    (F : FnOk X.prog X.w X.K X.mg X.base CX k f fd ps sp) (hr : Room k X.A) (hg : Gl X x) (hm : X.mg x = some (.ref f)) (hk : PySem.W.keepIn X.K (.ref f) = true) (hb : KBinds X.K fd ps ks g gV) (hx : Passes CX X E)
    (hkw : PK X kws tk) (hall : (backToKw pos (keywordEach kws X.env)).all (·.1.isSome) = true := by rfl) (hks : (backToKw pos (keywordEach kws X.env)).filterMap (·.1) = ks := by rfl)
    (hdb : (x == ("__debug__" : Str)) = false := by decide)
    (hpl : ((backTo pos (starEach [] X.env)).any (·.1) || (backToKw pos (keywordEach kws X.env)).any (·.1.isNone)) = false := by rfl) :
    PE X (.Call (.Name x p) [] kws pos) (tCallK sp gV E tNil tk) := by
  refine ⟨fun pins s σ H Q I h => ?_⟩
  refine wpAny_Call_Name_kw (ld_glob I hg hm ?_ hdb)
  refine PySem.W.callWith_KW0 (h₀ := X.base) I.ok.mod.kin hk hall ?_ hpl
  refine thn (hkw.run pos pins s σ H _ I h) fun ws s2 ⟨zs, H2, I2, rz, q2⟩ => ⟨I2.kIn, ?_⟩
  rw [hks]
  exact run_fnk F hr hb hx I2 .nil rz q2
/-! targets, sources -/
theorem g_gtup {n : Nat} {t : TGs} {P : L2.St → Hp → Prop} (h : SqT K H a xs) (hl : xs.length = n) (q : t xs σ H P) : gTup K n t (.ref a) σ H P := ⟨a, xs, rfl, h, hl, q⟩
theorem g_gcons {t : TG} {u : TGs} {P : L2.St → Hp → Prop} (q : t v σ H fun σ' H' => u xs σ' H' P) : gCons t u (v :: xs) σ H P := ⟨v, xs, rfl, q⟩
theorem g_gnil {P : L2.St → Hp → Prop} (q : P σ H) : gNil [] σ H P := ⟨rfl, q⟩
theorem g_gsub {to ti : TE} {t : TSet} {P : L2.St → Hp → Prop} (q : to σ H fun o H1 => ti σ H1 fun i H2 => t o i v H2 fun H3 => P σ H3) : gSub to ti t v σ H P := q
theorem g_setL {i : Nat} {P : Hp → Prop} (h : H p = some (.lst xs)) (hi : i < xs.length) (q : P (upd H p (.lst (xs.set i v)))) : rSetL (.ref p) (.int (i : Nat)) v H P :=
  ⟨p, xs, _, i, rfl, rfl, h, by unfold ixN; rw [if_pos (by omega), if_pos (by omega)]; simp, q⟩
/-! * : ints; a text by an int -/
theorem fold_app (l : List (Array Nat)) (a : Array Nat) : (l.foldl (· ++ ·) a).toList = a.toList ++ (l.map Array.toList).flatten := by
  induction l generalizing a with
  | nil => simp
  | cons x r ih => rw [List.foldl_cons, ih]; simp
def mulS (z : Str) (n : Nat) : Str := ⟨((List.replicate n z.cps.toList).flatten).toArray⟩
theorem op_mulS : OpR X (binaryOp .Mult) (fun x y H Q => ∃ (z : Str) (n : Nat), x = .str z ∧ y = .int (n : Nat) ∧ n ≤ 1000000 ∧ z.length * n ≤ 1000000 ∧ z.length ≤ 1000000 ∧ Q (.str (mulS z n)) H) := by
  intro pins s σ H x y v u Q I rx ry h
  obtain ⟨z, n, rfl, rfl, hn, hz, hz1, q⟩ := h
  obtain ⟨t, rfl⟩ := rx
  obtain ⟨t', rfl⟩ := ry
  refine PySem.P.mul_str (by simp; omega) (fun h1 h2 => ?_) (fun h1 h2 => PyProof.Rows.short24 (by rw [Int.toNat_natCast]; omega)) ?_
  · have h3 : (9223372036854775807 : Int) / 1000000 ≤ (2 ^ 63 - 1) / (n : Int) := by
      have : (0 : Int) < (n : Int) := by omega
      rw [Int.le_ediv_iff_mul_le this]
      have : (9223372036854775807 : Int) / 1000000 * (n : Int) ≤ 9223372036854775807 / 1000000 * 1000000 := Int.mul_le_mul_of_nonneg_left (by omega) (by decide)
      omega
    have h4 : ((9223372036854775807 : Int) / 1000000) = 9223372036854 := by decide
    omega
  · have e0 : n = 0 → mulS z n = Str.empty := fun e => by subst e; rfl
    by_cases h1 : (n : Int) < 1
    · rw [if_pos h1]
      have := e0 (by omega)
      exact ⟨by rw [sizeLine_eq]; decide, .str (mulS z n), H, I.tok _, ⟨_, by rw [this]⟩, q⟩
    · rw [if_neg h1]
      by_cases h2 : (((n : Int) == 1) || z.length == 0) = true
      · rw [if_pos h2]
        have e : mulS z n = z := by
          unfold mulS
          rcases (Bool.or_eq_true _ _).mp h2 with h3 | h3
          · have : n = 1 := by have := eq_of_beq h3; omega
            subst this
            simp
          · have h3 : z.cps.size = 0 := eq_of_beq h3
            have : z.cps.toList = [] := by
              rw [← List.length_eq_zero_iff, Array.length_toList]; exact h3
            rw [this]
            cases z with
            | mk c =>
              have : c = #[] := Array.toList_inj.mp this
              subst this
              simp
        exact ⟨.str (mulS z n), H, I, ⟨t, by rw [e]⟩, q⟩
      · rw [if_neg h2]
        have e : mulS z n = ⟨(List.replicate (n : Int).toNat z.cps).foldl (· ++ ·) #[]⟩ := by
          unfold mulS
          congr 1
          apply Array.toList_inj.mp
          rw [fold_app, Int.toNat_natCast, List.map_replicate]
          simp
        refine ⟨?_, .str (mulS z n), H, I.tok _, ⟨_, by rw [e]⟩, q⟩
        rw [← e, sizeLine_eq]
        show (mulS z n).cps.size ≤ _
        unfold mulS
        have h5 : z.cps.size * n ≤ 1000000 := hz
        simp only [List.size_toArray, List.length_flatten, List.map_replicate, List.sum_replicate_nat, Array.length_toList]
        rw [Nat.mul_comm]
        omega
def rMulS : R2 := fun x y H Q => ∃ (z : Str) (n : Nat), x = .str z ∧ y = .int (n : Nat) ∧ n ≤ 1000000 ∧ z.length * n ≤ 1000000 ∧ z.length ≤ 1000000 ∧ Q (.str (mulS z n)) H
def rMulU : R2 := fun x y H Q => rI CMul (fun i j => .int (i * j)) x y H Q ∨ (rMulS x y H Q ∨ rRep x y H Q)
theorem op_mulU : OpR X (binaryOp .Mult) rMulU := op_mul.or ((show OpR X (binaryOp .Mult) rMulS from op_mulS).or op_rep)
theorem g_mulI (c : CMul i j) (q : Q (.int (i * j)) H) : rMulU (.int i) (.int j) H Q := .inl ⟨i, j, rfl, rfl, c, q⟩
theorem g_mulS {n : Nat} (h1 : n ≤ 1000000) (h2 : z.length * n ≤ 1000000) (h3 : z.length ≤ 1000000) (q : Q (.str (mulS z n)) H) : rMulU (.str z) (.int (n : Nat)) H Q := .inr (.inl ⟨z, n, rfl, rfl, h1, h2, h3, q⟩)
theorem g_mulL {n : Nat} (h : H a = some (.lst xs)) (h1 : n ≤ 1000000) (h2 : xs.length * n ≤ 16000000) (q : ∀ p, H p = none → Q (.ref p) (upd H p (.lst (List.replicate n xs).flatten))) : rMulU (.ref a) (.int (n : Nat)) H Q :=
  .inr (.inr ⟨a, n, xs, rfl, rfl, h, by omega, by omega, by rw [sizeLine_eq, Int.toNat_natCast]; omega, q⟩)
/-! the same with the written part named -/
variable (hK : X.K = K)
include hK
theorem ix_seqK : IxR X (rIx K) := hK ▸ ix_seq
theorem sl_UK : SlR X (rSlU K) := hK ▸ sl_U
theorem op_eqUK (hu : X.A.units + 64 < cLine) : OpR X (compareOp .Eq) (rEqU K) := hK ▸ op_eqU hu
theorem op_neUK (hu : X.A.units + 64 < cLine) : OpR X (compareOp .NotEq) (rNeU K) := hK ▸ op_neU hu
theorem op_ltUK (hu : X.A.units + 64 < cLine) : OpR X (compareOp .Lt) (rLtU K) := hK ▸ op_ltU hu
theorem op_inK : OpR X (compareOp .In) (rIn K false) := hK ▸ op_in_seq
theorem op_notInK : OpR X (compareOp .NotIn) (rIn K true) := hK ▸ op_notIn_seq
theorem call_lenUK : CallR X (.builtin "len") (rLenU K) := hK ▸ call_lenU
theorem call_maxUK (hc : X.calm = true) : CallR X (.builtin "max") (rMaxU K) := hK ▸ call_maxU hc
theorem call_minUK (hc : X.calm = true) : CallR X (.builtin "min") (rMinU K) := hK ▸ call_minU hc
theorem call_allK (hc : X.calm = true) : CallR X (.builtin "all") (rAll K) := hK ▸ cr_all hc
theorem call_anyK (hc : X.calm = true) : CallR X (.builtin "any") (rAny K) := hK ▸ cr_any hc
theorem call_sumK (hc : X.calm = true) : CallR X (.builtin "sum") (rSum K) := hK ▸ cr_sum hc
theorem call_isiUK : CallR X (.builtin "isinstance") (rIsiU K) := hK ▸ call_isiU
def rJoin (K : PySem.W.Frag) : V → List V → Hp → VK → Prop := fun x xs H Q => ∃ a p, ∃ ys : List Str, x = .str a ∧ xs = [.ref p] ∧ (SqL K H p (ys.map V.str) ∨ SqT K H p (ys.map V.str)) ∧ (ys.map (·.length)).sum + ys.length * a.length ≤ 16777216 ∧ Q (.str (Txt.join a ys)) H
theorem mt_joinK : MtR X "str.join" (rJoin K) := hK ▸ mt_join
theorem pi_listK {tg l : Expr} {tl : TE} (hl : PE X l tl) : PI X tg l (iList K tl) := hK ▸ pi_list hl
theorem pg_tupK {es : List Expr} {k : Nat} {pos : Pos} {t : TGs} {n : Nat} (hc : X.calm = true) (h : PGs X es t)
    (hn : (assignEach es X.env).length = n := by rfl) (hst : (assignEach es X.env).findIdx? (·.1) = none := by rfl) : PG X (.Tuple es k pos) (gTup K n t) := hK ▸ pg_tup hc h hn hst
theorem pe_bmK {e : Expr} {to : TE} {t : TA} {T : String} {r : V → List V → Hp → VK → Prop} (h : PE X e (tBM X.K T r to t)) : PE X e (tBM K T r to t) := hK ▸ h
theorem pe_bm0K {e : Expr} {to : TE} {T : String} {r : V → List V → Hp → VK → Prop} (h : PE X e (tBM0 X.K T r to)) : PE X e (tBM0 K T r to) := hK ▸ h
theorem pe_fldK {e : Expr} {ta : TE} {f : Str} (h : PE X e (tFld X.K ta f)) : PE X e (tFld K ta f) := hK ▸ h
omit hK
theorem g_joinK {p : Addr} {l : List Str} (h : SqL K H p (l.map V.str)) (hz : (l.map (·.length)).sum + l.length * z.length ≤ 16777216) (q : Q (.str (Txt.join z l)) H) : rJoin K (.str z) [.ref p] H Q := ⟨z, p, l, rfl, rfl, .inl h, hz, q⟩
/-! any source: a list, a tuple, a text -/
def iAny (K : PySem.W.Frag) (te : TE) : TI := fun σ H R => te σ H fun x H1 => (∃ a, x = .ref a ∧ (∃ xs, SqL K H1 a xs) ∧ R (Itl K a) H1) ∨ (∃ a, x = .ref a ∧ (∃ xs, SqT K H1 a xs) ∧ R (Itt K a) H1) ∨ ∃ z, x = .str z ∧ R (Its z) H1
theorem pi_anyK {tg e : Expr} {te : TE} (hK : X.K = K) (he : PE X e te) : PI X tg e (iAny K te) := by
  subst hK
  constructor
  intro pins s σ H R I h
  refine thn (he.run pins s σ H _ I h) ?_
  rintro v s1 ⟨y, H1, I1, r1, w⟩
  rcases w with ⟨a, rfl, ⟨xs, hq⟩, q⟩ | ⟨a, rfl, ⟨xs, hq⟩, q⟩ | ⟨z, rfl, q⟩
  · cases r1
    obtain ⟨its, -, p, -⟩ := I1.list hq
    exact wpAny_pyIter_list p.isList (pi_one (tk := s1.toks) I1 _ (turn_list a _) ⟨_, Heap.get?_push_size _ rfl, rfl, rfl⟩ q)
  · cases r1
    obtain ⟨its, -, p, -⟩ := I1.tuple hq
    exact wpAny_pyIter_tuple (show s1.heap.IsTuple a its.toArray from p) (pi_one (tk := s1.toks) I1 _ (turn_tuple a _) ⟨_, Heap.get?_push_size _ rfl, rfl, rfl⟩ q)
  · obtain ⟨t, rfl⟩ := r1
    cases b : z.cps.all (· < 128) with
    | false => exact wpAny_pyIter_wide b (pi_one (tk := s1.toks) I1 _ (turn_str _ z t "str_iterator" (.inr rfl)) ⟨_, Heap.get?_push_size _ rfl, rfl, rfl⟩ q)
    | true => exact wpAny_pyIter_ascii b (pi_one (tk := s1.toks) I1 _ (turn_str _ z t "str_ascii_iterator" (.inl rfl)) ⟨_, Heap.get?_push_size _ rfl, rfl, rfl⟩ q)
theorem g_iAny {ta : TE} {R : It → Hp → Prop} (q : ta σ H fun x H1 => (∃ a, x = .ref a ∧ (∃ xs, SqL K H1 a xs) ∧ R (Itl K a) H1) ∨ (∃ a, x = .ref a ∧ (∃ xs, SqT K H1 a xs) ∧ R (Itt K a) H1) ∨ ∃ z, x = .str z ∧ R (Its z) H1) : iAny K ta σ H R := q
theorem g_anyL {P P2 : Addr → Prop} {P3 : Str → Prop} (h : SqL K H a xs) (q : P a) : (∃ a', V.ref a = .ref a' ∧ (∃ xs, SqL K H a' xs) ∧ P a') ∨ (∃ a', V.ref a = .ref a' ∧ (∃ xs, SqT K H a' xs) ∧ P2 a') ∨ ∃ z, V.ref a = .str z ∧ P3 z := .inl ⟨a, rfl, ⟨xs, h⟩, q⟩
theorem g_anyT {P P2 : Addr → Prop} {P3 : Str → Prop} (h : SqT K H a xs) (q : P2 a) : (∃ a', V.ref a = .ref a' ∧ (∃ xs, SqL K H a' xs) ∧ P a') ∨ (∃ a', V.ref a = .ref a' ∧ (∃ xs, SqT K H a' xs) ∧ P2 a') ∨ ∃ z, V.ref a = .str z ∧ P3 z := .inr (.inl ⟨a, rfl, ⟨xs, h⟩, q⟩)
theorem g_anyS {P P2 : Addr → Prop} {P3 : Str → Prop} (q : P3 z) : (∃ a', V.str z = .ref a' ∧ (∃ xs, SqL K H a' xs) ∧ P a') ∨ (∃ a', V.str z = .ref a' ∧ (∃ xs, SqT K H a' xs) ∧ P2 a') ∨ ∃ z', V.str z = .str z' ∧ P3 z' := .inr (.inr ⟨z, rfl, q⟩)
/-! x[::-1], a text -/
theorem rev_ix (n : Nat) : Builtin.Str.strSliceIndices none none (-1) n = (List.range n).reverse := by
  rw [← PySem.W.krv_range n, ← PySem.W.krv_sliceRange n]
  rfl
def tRevS (te : TE) : TE := fun σ H Q => te σ H fun x H1 => ∃ z, x = .str z ∧ z.length ≤ sizeLine ∧ Q (.str ⟨z.cps.toList.reverse.toArray⟩) H1
theorem pe_revS {e : Expr} {te : TE} {k : Nat} {p1 p2 p3 pos : Pos} (he : PE X e te) : PE X (.Subscript e (.Slice none none (some (.UnaryOp .USub (.Constant (.int 1) k p1) p2)) p3) pos) (tRevS te) := by
  constructor
  intro pins s σ H Q I h
  refine Subscript_ (thn (he.run pins s σ H _ I h) ?_)
  rintro v s1 ⟨x, H1, I1, r1, z, rfl, hz, q⟩
  obtain ⟨t, rfl⟩ := r1
  have hst : PO X (some (.UnaryOp .USub (.Constant (.int 1) k p1) p2)) (tPart (tUn (rU fun i => .int (-i)) (tC (.int 1)))) := po_some (pe_un un_neg pe_int)
  refine wpAny_Slice (thn (po_none.run pins s1 σ H1 (fun o H2 => o = none ∧ H2 = H1) I1 ⟨rfl, rfl⟩) ?_)
  rintro vl s2 ⟨l, H2, I2, pl, rfl, rfl⟩
  refine thn (po_none.run pins s2 σ H2 (fun o H3 => o = none ∧ H3 = H2) I2 ⟨rfl, rfl⟩) ?_
  rintro vu s3 ⟨u, H3, I3, pu, rfl, rfl⟩
  refine thn (hst.run pins s3 σ H3 (fun o H4 => o = some (-1) ∧ H4 = H3) I3 ⟨1, rfl, -1, rfl, rfl, rfl⟩) ?_
  rintro vs s4 ⟨o, H4, I4, ps, rfl, rfl⟩
  have I5 : Inv X pins σ H4 { s4 with heap := s4.heap.push { cls := .type "slice", data := .fields #[vl, vu, vs] } } := I4.kept (t' := s4.toks) fun b ob q => Heap.get?_push_of_some _ q
  obtain ⟨l', rfl, el⟩ := IsPart.raw pl
  obtain ⟨u', rfl, eu⟩ := IsPart.raw pu
  obtain ⟨k', rfl, ek⟩ := IsPart.raw ps
  cases l' with
  | some _ => cases el
  | none =>
    cases u' with
    | some _ => cases eu
    | none =>
      cases k' with
      | none => cases ek
      | some kk =>
        obtain ⟨ki, kt⟩ := kk
        have eki : ki = -1 := Option.some.inj ek
        subst eki
        show wpAny (model X.prog X.w) X.A (subscriptTail e (.Slice none none (some (.UnaryOp .USub (.Constant (.int 1) k p1) p2)) p3) (.str z t) (.ref s4.heap.objs.size)) (EP X pins σ Q) X.xe _
        refine tail_any (ops := [.ref s4.heap.objs.size, .str z t]) (typeIs_str _ _ _) F.slot_str_getitem.lookup ?_ (by with_unfolding_all rfl)
        refine wpAny_getItem_str_slice (l := none) (u := none) (st := some (-1, kt)) ⟨_, Heap.get?_push_size _ rfl, rfl, rfl⟩ rfl ?_
        have hp : slicePicked z none none (some (-1, kt)) = (List.range z.length).reverse := rev_ix z.length
        have er : ((List.range z.length).reverse.filterMap (z.cps[·]?)) = z.cps.toList.reverse := by
          rw [List.filterMap_reverse, show z.length = z.cps.size from rfl, PySem.W.krv_all]
        show (sliceMade z t none none (some (-1, kt))).post _ _
        unfold sliceMade
        rw [if_neg (by intro h; simp at h), hp, er]
        refine ⟨?_, .str _, H4, I5.tok _, ⟨_, rfl⟩, q⟩
        show z.cps.toList.reverse.toArray.size ≤ sizeLine
        rw [List.size_toArray, List.length_reverse, Array.length_toList]
        exact hz
theorem g_revS {te : TE} (q : te σ H fun x H1 => ∃ z, x = .str z ∧ z.length ≤ sizeLine ∧ Q (.str ⟨z.cps.toList.reverse.toArray⟩) H1) : tRevS te σ H Q := q
theorem g_revS1 {P : Str → Prop} (h : z.length ≤ sizeLine) (q : P z) : ∃ z', V.str z = .str z' ∧ z'.length ≤ sizeLine ∧ P z' := ⟨z, rfl, h, q⟩
theorem g_pop {y : V} {xs : List V} (h : H p = some (.lst (xs ++ [y]))) (q : Q y (upd H p (.lst xs))) : rPop (.ref p) [] H Q := ⟨p, _, y, rfl, rfl, h, by simp, by rw [List.dropLast_concat]; exact q⟩
theorem g_append {y : V} {xs : List V} (h : H p = some (.lst xs)) (hz : xs.length < 16000000) (q : Q .non (upd H p (.lst (xs ++ [y])))) : rAppend (.ref p) [y] H Q := ⟨p, xs, y, rfl, rfl, h, by rw [sizeLine_eq]; omega, q⟩
/-- a list or a tuple at a -/
def Sq (K : PySem.W.Frag) (H : Hp) (a : Addr) (xs : List V) : Prop := SqL K H a xs ∨ SqT K H a xs
theorem st_same {H' : Hp} (e : Same H H') (h : SqT K H a xs) : SqT K H' a xs := by
  rcases h with (h | ⟨o, h⟩) | h
  · exact .inl (.inl (e _ _ h))
  · exact .inl (.inr ⟨o, e _ _ h⟩)
  · exact .inr h
theorem Sq.same {H' : Hp} (e : Same H H') (h : Sq K H a xs) : Sq K H' a xs := h.elim (fun h => .inl (sq_same e h)) fun h => .inr (st_same e h)
theorem g_anySq {H0 : Hp} {ta : TE} {R : It → Hp → Prop} (e : ∀ Q : VK, Q (.ref a) H → ta σ H Q) (h : Sq K H0 a xs) (e0 : Same H0 H) (q : ∀ J G, Walk J xs.length G (YAt xs) → (∀ H', Same H0 H' → G H') → R J H) : iAny K ta σ H R :=
  e _ (h.elim (fun h => .inl ⟨a, rfl, ⟨xs, sq_same e0 h⟩, q _ _ walk_list fun _ e => sq_same e h⟩) fun h => .inr (.inl ⟨a, rfl, ⟨xs, st_same e0 h⟩, q _ _ walk_tup fun _ e => st_same e h⟩))
theorem g_lenSq (h : Sq K H a xs) (q : Q (.int (xs.length : Nat)) H) : rLenU K [.ref a] H Q := h.elim (fun h => g_lenL h q) fun h => g_lenT h q
end
end Hx

namespace Hx
open PySem PySem.Spec PyProof.Rows L2
/-! ### defs that are called where nothing is being shown (no repr under way): so repr of data is known -/
structure RoomG (k : Nat) (A : Around) : Prop extends Room k A where
  gd : A.guards = some []
section
variable {j k : Nat} {A : Around}
theorem RoomG.mono (r : RoomG k A) (h : j ≤ k) : RoomG j A := ⟨r.toRoom.mono h, r.gd⟩
theorem RoomG.deeper (r : RoomG (k + 1) A) (env : Env) : RoomG k (A.deeper env) := ⟨r.toRoom.deeper env, r.gd⟩
theorem RoomG.make (r : RoomG (k + 1) A) (C : Addr) (us : List Value) (kw : List (Str × Value)) : RoomG k (A.under (.builtin "type.__call__" ⟨.ref C :: us, kw⟩)) := by
  refine ⟨r.toRoom.make C us kw, ?_⟩
  simp [Around.under, Code.guards, Code.isGuard, guardIds, pushGuards, r.gd]
theorem RoomG.units (r : RoomG k A) : A.units + 64 < cLine := r.toRoom.units
end
theorem huG {A : Around} {k : Nat} (hr : RoomG k A) : A.units + 1 < cLine := hu_of hr.toRoom
section
variable {P : Program} {w : World} {K : PySem.W.Frag} {mg : Str → Option Value} {base : Heap} {CX : CXT} {j k : Nat} {f : Addr} {fd : FuncData} {ps : List Str} {sp : Sp}
structure FnG (P : Program) (w : World) (K : PySem.W.Frag) (mg : Str → Option Value) (base : Heap) (CX : CXT) (k : Nat) (f : Addr) (fd : FuncData) (ps : List Str) (sp : Sp) : Prop where
  many : ∀ vs H Q E, sp vs H Q E → vs.length = ps.length
  goes : ∀ (A : Around) (below : List Env) (s : Shared) (H : Hp) (given : Args) (us : List Value) (vs : List V) (Q : VK) (E : XK), RoomG k A →
    Env0 P w K mg base A below s H → BindsTo s fd given (ps.zip us) → Vals vs us → sp vs H Q E → codeAny (model P w) A (.call (.ref f) given) (CR CX below P w H s Q E) s
theorem FnG.mono (F : FnG P w K mg base CX j f fd ps sp) (h : j ≤ k) : FnG P w K mg base CX k f fd ps sp := ⟨F.many, fun A b s H g us vs Q E r => F.goes A b s H g us vs Q E (r.mono h)⟩
theorem FnG.imp {sp' : Sp} (F : FnG P w K mg base CX k f fd ps sp) (h : ∀ vs H Q E, sp' vs H Q E → sp vs H Q E) : FnG P w K mg base CX k f fd ps sp' :=
  ⟨fun vs H Q E q => F.many vs H Q E (h _ _ _ _ q), fun A b s H g us vs Q E r e bd rv q => F.goes A b s H g us vs Q E r e bd rv (h _ _ _ _ q)⟩
/-- what a wanted end makes of a call's end -/
theorem fl_end {X : Cx} {pins : List (Addr × Obj)} {σ : L2.St} {H : Hp} {s : Shared} {Q : VK} {E : XK} {r : Result} {s' : Shared} (I : Inv X pins σ H s) (hx : ∀ e, CX X.stack H s E e s' → X.xe e s') (h : CR CX X.stack X.prog X.w H s Q E r s') :
    match r with | .ok (.ret u) => EP X pins σ Q u s' | .ok _ => False | .error e => X.xe e s' := by
  rcases r with e | (u | _ | _ | _)
  · exact hx e h
  all_goals first | exact I.after h | exact h.elim
end
section
variable {X : Cx} {CX : CXT} {k : Nat} {f : Addr} {fd : FuncData} {ps ks : List Str} {sp : Sp} {E : XK} {x : Str} {p pos : Pos} {e : Expr} {es : List Expr} {kws : List Keyword} {ta tk : TA} {g : List Value → List Value → List Value} {gV : List V → List V → List V}
theorem into {pins : List (Addr × Obj)} {σ : L2.St} {H : Hp} {s : Shared} {Q : VK} {E : XK} {given : Args} {us : List Value} {vs : List V} (F : FnG X.prog X.w X.K X.mg X.base CX k f fd ps sp) (hr : RoomG k X.A) (hx : ∀ e s', CX X.stack H s E e s' → X.xe e s')
    (I : Inv X pins σ H s) (hb : (us.length = ps.length) → BindsTo s fd given (ps.zip us)) (r : Vals vs us) (h : sp vs H Q E) : wpAny (model X.prog X.w) X.A (call (.ref f) given.pos given.kw) (EP X pins σ Q) X.xe s := by
  have n : us.length = ps.length := r.length.symm.trans (F.many _ _ _ _ h)
  obtain ⟨gp, gk⟩ := given
  refine wpAny_call (codeAny_mono (F.goes X.A X.stack s H ⟨gp, gk⟩ us vs Q E hr I.env0 (hb n) r h) fun r s' hq => ?_)
  have z := fl_end I (fun e => hx e s') hq
  rcases r with e | (u | _ | _ | _) <;> exact z
theorem pc_pos (F : FnG X.prog X.w X.K X.mg X.base CX k f fd ps sp) (hr : RoomG k X.A) (hg : Gl X x) (hm : X.mg x = some (.ref f)) (kp : PySem.W.keepIn X.K (.ref f) = true) (hb : Binds X.K fd ps []) (hx : Passes CX X E) (ha : PA X (e :: es) ta)
    (n2 : (x == ("__debug__" : Str)) = false := by decide) (he : starEach (e :: es) X.env = (false, eval e X.env) :: starEach es X.env := by rfl) (hpl : (backTo pos (starEach es X.env)).any (·.1) = false := by rfl) :
    PE X (.Call (.Name x p) (e :: es) [] pos) (tCall sp [] E ta) := by
  refine ⟨fun pins s σ H Q I h => wpAny_Call_Name_kw (ld_glob I hg hm ?_ n2)⟩
  refine PySem.W.callWith_K (h₀ := X.base) I.ok.mod.kin kp (thn (ha.run pos pins s σ H _ I h) fun us s1 hh => ?_) he hpl
  obtain ⟨vs, G, J, r, q⟩ := hh
  refine ⟨J.kIn, into (given := ⟨us, []⟩) (us := us) F hr (fun e s' => hx pins σ G s1 e s' J) J (fun n => ?_) r (by rw [List.append_nil] at q; exact q)⟩
  have z := hb s1 us J.kIn (by rw [List.append_nil]; exact n)
  rw [List.append_nil] at z; exact z
theorem pc_none (F : FnG X.prog X.w X.K X.mg X.base CX k f fd ps sp) (hr : RoomG k X.A) (hg : Gl X x) (hm : X.mg x = some (.ref f)) (kp : PySem.W.keepIn X.K (.ref f) = true) (hb : Binds X.K fd ps []) (hx : Passes CX X E) (n2 : (x == ("__debug__" : Str)) = false := by decide) :
    PE X (.Call (.Name x p) [] [] pos) (tCall sp [] E tNil) := by
  refine ⟨fun pins s σ H Q I h => wpAny_Call_Name_kw (ld_glob I hg hm ?_ n2)⟩
  refine PySem.W.callWith_K0 I.kIn kp (into (given := ⟨[], []⟩) (us := []) F hr (fun e s' => hx pins σ H s e s' I) I (fun n => ?_) .nil h)
  exact hb s [] I.kIn n
theorem pc_kws (F : FnG X.prog X.w X.K X.mg X.base CX k f fd ps sp) (hr : RoomG k X.A) (hg : Gl X x) (hm : X.mg x = some (.ref f)) (kp : PySem.W.keepIn X.K (.ref f) = true) (hb : KBinds X.K fd ps ks g gV) (hx : Passes CX X E) (hk : PK X kws tk)
    (all : (backToKw pos (keywordEach kws X.env)).all (·.1.isSome) = true := by rfl) (nms : (backToKw pos (keywordEach kws X.env)).filterMap (·.1) = ks := by rfl) (n2 : (x == ("__debug__" : Str)) = false := by decide)
    (pl : ((backTo pos (starEach [] X.env)).any (·.1) || (backToKw pos (keywordEach kws X.env)).any (·.1.isNone)) = false := by rfl) : PE X (.Call (.Name x p) [] kws pos) (tCallK sp gV E tNil tk) := by
  refine ⟨fun pins s σ H Q I h => wpAny_Call_Name_kw (ld_glob I hg hm ?_ n2)⟩
  refine PySem.W.callWith_KW0 (h₀ := X.base) I.ok.mod.kin kp all ?_ pl
  refine thn (hk.run pos pins s σ H _ I h) fun ws s2 hh => ?_
  obtain ⟨zs, G, J, rz, q⟩ := hh
  refine ⟨J.kIn, ?_⟩
  rw [nms]
  exact into (given := ⟨[], ks.zip ws⟩) (us := g [] ws) F hr (fun e s' => hx pins σ G s2 e s' J) J (fun n => hb.to s2 [] ws J.kIn n) (hb.rel .nil rz) q
theorem pc_mix (F : FnG X.prog X.w X.K X.mg X.base CX k f fd ps sp) (hr : RoomG k X.A) (hg : Gl X x) (hm : X.mg x = some (.ref f)) (kp : PySem.W.keepIn X.K (.ref f) = true) (hb : KBinds X.K fd ps ks g gV) (hx : Passes CX X E) (ha : PA X (e :: es) ta) (hk : PK X kws tk)
    (all : (backToKw pos (keywordEach kws X.env)).all (·.1.isSome) = true := by rfl) (nms : (backToKw pos (keywordEach kws X.env)).filterMap (·.1) = ks := by rfl) (n2 : (x == ("__debug__" : Str)) = false := by decide)
    (he : starEach (e :: es) X.env = (false, eval e X.env) :: starEach es X.env := by rfl)
    (pl : ((backTo pos (starEach (e :: es) X.env)).any (·.1) || (backToKw pos (keywordEach kws X.env)).any (·.1.isNone)) = false := by rfl) : PE X (.Call (.Name x p) (e :: es) kws pos) (tCallK sp gV E ta tk) := by
  refine ⟨fun pins s σ H Q I h => wpAny_Call_Name_kw (ld_glob I hg hm ?_ n2)⟩
  refine PySem.W.callWith_KW (h₀ := X.base) I.ok.mod.kin kp all (thn (ha.run pos pins s σ H _ I h) fun us s1 h1 => ?_) pl he
  obtain ⟨vs, G1, J1, r1, q1⟩ := h1
  refine thn (hk.run pos pins s1 σ G1 _ J1 q1) fun ws s2 hh => ?_
  obtain ⟨zs, G, J, rz, q⟩ := hh
  refine ⟨J.kIn, ?_⟩
  rw [nms]
  exact into (given := ⟨us, ks.zip ws⟩) (us := g us ws) F hr (fun e s' => hx pins σ G s2 e s' J) J (fun n => hb.to s2 us ws J.kIn n) (hb.rel r1 rz) q
/-- in the body of a try: what the callee lets out may speak of the slots -/
def tCallE (sp : Sp) (W : WX) (t : TA) : TE := fun σ H Q => t σ H fun vs G => sp vs G Q fun cls d J => W cls d σ J
theorem g_callE {W : WX} {σ : L2.St} {H : Hp} {Q : VK} (h : ta σ H fun vs G => sp vs G Q fun cls d J => W cls d σ J) : tCallE sp W ta σ H Q := h
theorem pc_try {W : WX} (F : FnG X.prog X.w X.K X.mg X.base (L2.CX X.prog X.w) k f fd ps sp) (hr : RoomG k X.A) (hg : Gl X x) (hm : X.mg x = some (.ref f)) (kp : PySem.W.keepIn X.K (.ref f) = true) (hb : Binds X.K fd ps []) (tk : Takes X W) (ha : PA X (e :: es) ta)
    (n2 : (x == ("__debug__" : Str)) = false := by decide) (he : starEach (e :: es) X.env = (false, eval e X.env) :: starEach es X.env := by rfl) (hpl : (backTo pos (starEach es X.env)).any (·.1) = false := by rfl) :
    PE X (.Call (.Name x p) (e :: es) [] pos) (tCallE sp W ta) := by
  refine ⟨fun pins s σ H Q I h => wpAny_Call_Name_kw (ld_glob I hg hm ?_ n2)⟩
  refine PySem.W.callWith_K (h₀ := X.base) I.ok.mod.kin kp (thn (ha.run pos pins s σ H _ I h) fun us s1 hh => ?_) he hpl
  obtain ⟨vs, G, J, r, q⟩ := hh
  refine ⟨J.kIn, into (given := ⟨us, []⟩) (us := us) F hr (fun e s' c => passAt tk σ pins G s1 e s' J c) J (fun n => ?_) r q⟩
  have z := hb s1 us J.kIn (by rw [List.append_nil]; exact n)
  rw [List.append_nil] at z; exact z
end
/-! ### a def by its body -/
section
variable {P : Program} {w : World} {K : PySem.W.Frag} {mg : Str → Option Value} {base : Heap}
theorem body_goes {CX : CXT} {k : Nat} {f : Addr} {name qual : Str} {pr : Arguments} {body : List Stmt} {sc : Scope} {dV kV doc pm cdv ct oc : Value} {an od : Option Addr} {osl : Array (Option Value)} {N ps : List Str} {sp : Sp}
    (lk : K.lookup f = some ⟨oc, od, .func (PySem.W.fnOf name qual pr body sc dV kV doc pm an cdv ct), osl⟩) (hcd : PySem.W.codeIn K cdv qual = true) (S : FnScope N ps sc) (many : ∀ vs H Q E, sp vs H Q E → vs.length = ps.length)
    (hbody : ∀ (A : Around) (below : List Env) (s : Shared) (H : Hp) (vs : List V) (Q : VK) (E : XK), RoomG k (A.deeper (envOfC qual sc s.heap.objs.size f cdv)) → sp vs H Q E →
      ∃ t, PSs (cxOf CX P w K mg base N qual sc f cdv A below s H E) body t ∧ t { nx := fun _ G => Q .non G, rt := Q } (start N vs) H) : FnG P w K mg base CX (k + 1) f (PySem.W.fnOf name qual pr body sc dV kV doc pm an cdv ct) ps sp := by
  refine ⟨many, fun A below s H given us vs Q E hr e0 hb rv h => ?_⟩
  have old : ∀ b o, base.get? b = some o → s.heap.get? b = some o := fun b o e => (e0.bs b o e).1
  have KX : K.In s.heap := e0.mod.kin.keeps old
  have kinds : ∀ y ∈ ps.zip us, sc.names.lookup y.1 = some .local ∨ (sc.names.lookup y.1 = some .cell ∧ ((cellsFrom (s.heap.objs.size + 1) sc.names []).lookup y.1).isSome = true) := by
    rintro ⟨n, v⟩ hy
    exact (S.par n (List.of_mem_zip hy).1).imp id fun q => ⟨q, PySem.W.cellsFrom_some _ _ _ (.inl q)⟩
  refine codeAny_call_function hr.toRoom.depth (KX _ _ lk) rfl S.co S.gen rfl (PySem.W.codeRec_of KX hcd) (hb _ _ _ _ ?_)
  refine wpAny_newFunctionEnv_cells S.kind kinds fun env he s1 x => ?_
  subst he
  refine ⟨(e0.mod.nolimit.keeps old).keeps x.toInCall.keep, codeAny_func ?_⟩
  obtain ⟨t, ht, hq⟩ := hbody A below s H vs Q E (hr.deeper _) h
  refine wpAny_mono (ht.run [] s1 (start N vs) H _ (inv_start S hr.hd e0 (many _ _ _ _ h) rv x) hq) (fun fl s' hs => ?_) fun _ _ hs => hs
  cases fl with
  | ret u =>
    obtain ⟨v, τ, G, J, r, q⟩ := hs
    exact ⟨v, G, J.os, J.bare, J.base, J.hok, r, q⟩
  | next =>
    obtain ⟨τ, G, J, q⟩ := hs
    exact ⟨.non, G, J.os, J.bare, J.base, J.hok, rfl, q⟩
  | brk => obtain ⟨_, _, _, q⟩ := hs; exact q.elim
  | cont => obtain ⟨_, _, _, q⟩ := hs; exact q.elim
variable {x qual : Str} {st : Stmt} {f : Addr} {fd : FuncData} {N ps : List Str} {k : Nat} {sp : Sp}
theorem fnX (F : Fun K x qual st f fd) (S : FnScope N ps (defScope st)) (many : ∀ vs H Q E, sp vs H Q E → vs.length = ps.length)
    (hbody : ∀ (cdv : Value) (A : Around) (below : List Env) (s : Shared) (H : Hp) (vs : List V) (Q : VK) (E : XK), RoomG k (A.deeper (envOfC qual (defScope st) s.heap.objs.size f cdv)) → sp vs H Q E →
      ∃ t, PSs (cxOf (L2.CX P w) P w K mg base N qual (defScope st) f cdv A below s H E) (defBody st) t ∧ t { nx := fun _ G => Q .non G, rt := Q } (start N vs) H) : FnG P w K mg base (L2.CX P w) (k + 1) f fd ps sp := by
  obtain ⟨oc, od, kV, doc, pm, an, cdv, ct, osl, rfl, lk, hcd⟩ := F.ex
  exact body_goes lk hcd S many fun A b s H vs Q E hr h => hbody cdv A b s H vs Q E hr h
theorem fn0 (F : Fun K x qual st f fd) (S : FnScope N ps (defScope st)) (many : ∀ vs H Q E, sp vs H Q E → vs.length = ps.length)
    (hbody : ∀ (cdv : Value) (A : Around) (below : List Env) (s : Shared) (H : Hp) (vs : List V) (Q : VK) (E : XK), RoomG k (A.deeper (envOfC qual (defScope st) s.heap.objs.size f cdv)) → sp vs H Q E →
      ∃ t, PSs (cxOf CX0 P w K mg base N qual (defScope st) f cdv A below s H E).nox (defBody st) t ∧ t { nx := fun _ G => Q .non G, rt := Q } (start N vs) H) : FnG P w K mg base CX0 (k + 1) f fd ps sp := by
  obtain ⟨oc, od, kV, doc, pm, an, cdv, ct, osl, rfl, lk, hcd⟩ := F.ex
  refine body_goes lk hcd S many fun A b s H vs Q E hr h => ?_
  obtain ⟨t, ht, q⟩ := hbody cdv A b s H vs Q E hr h
  exact ⟨t, ht.nox, q⟩
end
theorem g_par {i j : Nat} {ta : TA} {D : Ends} {σ : L2.St} {H : Hp} (q : ta σ H fun vs G => ∃ v w, vs = [v, w] ∧ D.nx ((σ.set i (some v)).set j (some w)) G) : tPar i j ta D σ H := q
theorem g_two {x y : V} {R : V → V → Prop} (q : R x y) : ∃ v w, [x, y] = [v, w] ∧ R v w := ⟨x, y, rfl, q⟩
theorem g_meet {b : Bool} {A B C : Prop} (q : C) (h1 : b = true → C → A) (h2 : b = false → C → B) : if b = true then A else B := by
  cases b with
  | true => exact h1 rfl q
  | false => exact h2 rfl q
theorem g_meetH {b : Bool} {A B : Prop} {H : Hp} {C : Hp → Prop} (q : ∀ G, Same H G → C G) (h1 : b = true → (∀ G, Same H G → C G) → A) (h2 : b = false → (∀ G, Same H G → C G) → B) : if b = true then A else B := by
  cases b with
  | true => exact h1 rfl q
  | false => exact h2 rfl q
/-! ### int of an int, a truth, a text -/
def rIntU : List V → Hp → VK → Prop := fun xs H Q => rInt1 xs H Q ∨ ∃ a n, xs = [.str a] ∧ PySem.intText? a = some n ∧ a.length ≤ 640 ∧ Q (.int n) H
theorem call_intU {X : Cx} : CallR X (.type "int") rIntU := call_int1U.or call_int_str
theorem g_intI {i : Int} {H : Hp} {Q : VK} (q : Q (.int i) H) : rIntU [.int i] H Q := .inl (.inl ⟨i, rfl, q⟩)
theorem g_intBU {b : Bool} {H : Hp} {Q : VK} (q : Q (.int (if b then 1 else 0)) H) : rIntU [.bl b] H Q := .inl (.inr ⟨b, rfl, q⟩)
theorem g_intS {a : Str} {n : Int} {H : Hp} {Q : VK} (e : PySem.intText? a = some n) (z : a.length ≤ 640) (q : Q (.int n) H) : rIntU [.str a] H Q := .inr ⟨a, n, rfl, e, z, q⟩
/-! ### what is kept -/
theorem tup_same {K : PySem.W.Frag} {H H1 : Hp} {a : Addr} {xs : List V} (e : Same H H1) (h : SqT K H a xs) : SqT K H1 a xs := by
  rcases h with (h | ⟨o, h⟩) | h
  · exact .inl (.inl (e _ _ h))
  · exact .inl (.inr ⟨o, e _ _ h⟩)
  · exact .inr h
theorem ty_same {K : PySem.W.Frag} {H H1 : Hp} {x : V} {t : Value} (e : Same H H1) (h : TyX K H x t) : TyX K H1 x t := by
  cases h with
  | base b =>
    refine .base ?_
    cases b with
    | non => exact .non
    | bl x => exact .bl x
    | int i => exact .int i
    | str x => exact .str x
    | flt x => exact .flt x
    | lst q => exact .lst (e _ _ q)
    | frz q => exact .frz (e _ _ q)
    | tup q => exact .tup (e _ _ q)
    | dK q => exact .dK (e _ _ q)
    | dT q => exact .dT (e _ _ q)
    | ins q c h1 h2 h3 h4 => exact .ins (e _ _ q) c h1 h2 h3 h4
  | byt b => exact .byt b
  | set q => exact .set (e _ _ q)
  | kList q c => exact .kList q c
  | kTuple q c => exact .kTuple q c
  | kDict q c => exact .kDict q c
  | fTuple q => exact .fTuple (e _ _ q)
  | fDict q => exact .fDict (e _ _ q)
mutual
theorem dp_same {K : PySem.W.Frag} {H H1 : Hp} (e : Same H H1) : ∀ {v : V} {d : PyData}, Dp K H v d → Dp K H1 v d
  | _, _, .non => .non
  | _, _, .bl b => .bl b
  | _, _, .int i => .int i
  | _, _, .str x => .str x
  | _, _, .lst h k => .lst (e.seq h) (da_same e k)
  | _, _, .tup h k => .tup (tup_same e h) (da_same e k)
theorem da_same {K : PySem.W.Frag} {H H1 : Hp} (e : Same H H1) : ∀ {vs : List V} {ds : List PyData}, DpAll K H vs ds → DpAll K H1 vs ds
  | _, _, .nil => .nil
  | _, _, .cons h k => .cons (dp_same e h) (da_same e k)
end
/-! ### repr of data -/
def rReprD (K : PySem.W.Frag) : List V → Hp → VK → Prop := fun xs H Q => (∃ (x : V) (d : PyData), xs = [x] ∧ Dp K H x d ∧ d.showable = true ∧ d.hasDict = false ∧ d.depth ≤ 60 ∧ d.shown.length ≤ sizeLine ∧ Q (.str d.shown) H) ∨
  ∃ a : Addr, xs = [.ref a] ∧ H a = some (.dK []) ∧ Q (.str (PyData.shown (.dict []))) H
theorem call_reprD {X : Cx} {K : PySem.W.Frag} (hK : X.K = K) (gd : X.A.guards = some []) (un : X.A.units + 64 < cLine) : CallR X (.builtin "repr") (rReprD K) := by
  subst hK
  intro pins s σ H xs us Q I r h
  rcases h with ⟨x, d, rfl, hd, sh, nd, dp, sz, q⟩ | ⟨a, rfl, ha, q⟩
  rotate_left
  · obtain ⟨u, rfl, ru⟩ := vals1 r
    obtain rfl : u = Value.ref a := ru
    obtain ⟨_, hs, vs, kv, dd⟩ : ObjOk X.prog X.w H s.heap a (.dK []) := I.hok a _ ha
    cases kv
    have rd : Reads s.heap (.ref a) (.dict []) [a] := by
      obtain ⟨o, es, ep, h1, h2, h3, h4, h5, h6⟩ := dd
      have el : es.toList = [] := by
        generalize es.toList = l at h5
        cases h5
        rfl
      exact Reads.dict (kvs := []) h1 h2.1 h3 (by rw [el]; exact .nil) (by rw [el]; exact .nil)
    exact repr_of_reads' rd rfl (fun _ hm => (beq_eq_false_iff_ne.mp hs) (List.mem_singleton.mp hm).symm) gd (by show _ + (0 + 1 + 1) < _; omega) (fun _ _ e => e) (fun h' v tk kp => ⟨.str _, H, I.kept (t' := tk) kp, ⟨_, rfl⟩, q⟩) (by decide +kernel)
  obtain ⟨u, rfl, ru⟩ := vals1 r
  cases d with
  | none => cases hd; cases (show u = Value.none from ru); exact PySem.P.repr_of_none ⟨.str _, H, I.tok _, ⟨_, rfl⟩, q⟩
  | bool b => cases hd; cases (show u = Value.bool b from ru); exact PySem.P.repr_of_bool ⟨.str _, H, I.tok _, ⟨_, rfl⟩, q⟩
  | int i =>
    cases hd
    obtain ⟨t, rfl⟩ := (show ∃ t, u = Value.int i t from ru)
    exact PySem.P.repr_of_int (of_decide_eq_true sh) ⟨.str _, H, I.tok _, ⟨_, rfl⟩, q⟩
  | str z =>
    cases hd
    obtain ⟨t, rfl⟩ := (show ∃ t, u = Value.str z t from ru)
    exact PySem.P.repr_of_str (hsz := sz) ⟨.str _, H, I.tok _, ⟨_, rfl⟩, q⟩
  | list ds =>
    obtain ⟨as, rd⟩ := Dp.reads I _ _ _ hd ru
    obtain ⟨a, rfl⟩ : ∃ a, u = .ref a := by cases rd; exact ⟨_, rfl⟩
    exact repr_of_reads' rd sh (PyData.noDict_hsm nd) gd (by omega) (fun _ _ e => e) (fun h' v tk kp => ⟨.str _, H, I.kept (t' := tk) kp, ⟨_, rfl⟩, q⟩) sz
  | tuple ds =>
    obtain ⟨as, rd⟩ := Dp.reads I _ _ _ hd ru
    obtain ⟨a, rfl⟩ : ∃ a, u = .ref a := by cases rd; exact ⟨_, rfl⟩
    exact repr_of_reads' rd sh (PyData.noDict_hsm nd) gd (by omega) (fun _ _ e => e) (fun h' v tk kp => ⟨.str _, H, I.kept (t' := tk) kp, ⟨_, rfl⟩, q⟩) sz
  | dict kvs => exact absurd nd (by simp [PyData.hasDict])
theorem g_reprD {K : PySem.W.Frag} {H : Hp} {Q : VK} {x : V} {d : PyData} (hd : Dp K H x d) (sh : d.showable = true) (nd : d.hasDict = false) (dp : d.depth ≤ 60) (sz : d.shown.length ≤ sizeLine) (q : Q (.str d.shown) H) : rReprD K [x] H Q := .inl ⟨x, d, rfl, hd, sh, nd, dp, sz, q⟩
theorem g_reprE {K : PySem.W.Frag} {H : Hp} {Q : VK} {a : Addr} (h : H a = some (.dK [])) (q : Q (.str (PyData.shown (.dict []))) H) : rReprD K [.ref a] H Q := .inr ⟨a, rfl, h, q⟩
theorem g_reprBD {K : PySem.W.Frag} {H : Hp} {Q : VK} {b : Bool} (q : Q (.str (if b then "True" else "False")) H) : rReprD K [.bl b] H Q :=
  .inl ⟨_, .bool b, rfl, .bl b, rfl, rfl, Nat.zero_le _, by cases b <;> decide +kernel, q⟩
/-! ### the law's own call -/
theorem lawG {P : Program} {w : World} {K : PySem.W.Frag} {mg mb : Str → Option Value} {CX : CXT} {k : Nat} {fa a : Addr} {fd : FuncData} {x : Str} {sp : Sp} {s₁ : Shared} {vs : List Value} {ns : List Int}
    (KX : K.In s₁.heap) (nm : s₁.heap.Ns mainGlobals mg) (nb : s₁.heap.Ns builtinsNs mb) (eb : ∀ x : Str, x ≠ "__name__" → mb x = bootBuiltins x) (lim : s₁.heap.NoLimit) (ng : s₁.gens = #[])
    (ha : s₁.heap.get? a = some { cls := .type "list", data := .seq vs.toArray }) (hi : IntsAre vs ns) (hl : ns.length ≤ sizeLine) (hr : RoomG k callerA)
    (F : ∀ base : Heap, K.In base → base.Ns mainGlobals mg → FnG P w K mg base CX k fa fd [x] sp) (bd : ∀ (s : Shared) (u : Value), BindsTo s fd ⟨[u], []⟩ [(x, u)])
    (hsp : ∀ H : Hp, Only H → SqL K H a (ns.map V.int) → sp [.ref a] H (fun v _ => v = .bl true) fun _ _ _ => False) (noX : ∀ H e s', CX [] H s₁ (fun _ _ _ => False) e s' → False) :
    codeAny (model P w) callerA (.call (.ref fa) ⟨[.ref a], []⟩) (fun r s' => r = .ok (.ret (.bool true)) ∧ OldK s₁.heap s'.heap ∧ s'.os = s₁.os ∧ AllBare s'.gens) s₁ := by
  have rv := vals_ints hi
  have lv := hi.length
  have main : ∀ H : Hp, Only H → SqL K H a (ns.map V.int) → HOk P w H s₁.heap → (∀ b, H b ≠ none → b = a ∧ K.lookup a = none) →
      codeAny (model P w) callerA (.call (.ref fa) ⟨[.ref a], []⟩) (fun r s' => r = .ok (.ret (.bool true)) ∧ OldK s₁.heap s'.heap ∧ s'.os = s₁.os ∧ AllBare s'.gens) s₁ := by
    intro H only S ok own
    have un : ∀ {b : Addr}, (b = a → K.lookup a = none → False) → H b = none := fun {b} no => by
      cases z : H b with
      | none => rfl
      | some u => exact (no (own b (by rw [z]; simp)).1 (own b (by rw [z]; simp)).2).elim
    have ns' : ∀ {b : Addr} {m : Str → Option Value}, s₁.heap.Ns b m → (hidT s₁.heap H).Ns b m := by
      rintro b m ⟨o, es, ep, e, d, r⟩
      refine ⟨o, es, ep, hidT_get e (un fun z _ => ?_), d, r⟩
      rw [z, ha] at e
      cases e
      cases (show Data.seq vs.toArray _ = Data.dict es ep from d)
    have kb : K.In (hidT s₁.heap H) := fun b o e => hidT_get (KX b o e) (un fun z n => by rw [← z, e] at n; cases n)
    have e0 : Env0 P w K mg (hidT s₁.heap H) callerA [] s₁ H := by
      obtain ⟨mc, l1, l2⟩ := lim
      exact ⟨rfl, ⟨kb, ns' nm, ⟨mb, ns' nb, eb⟩, ⟨mc, ns' l1, l2⟩⟩, fun b o e => of_hidT e, Nat.le_of_eq (hidT_size _ _), trivial, fun b z => absurd (show b ∈ ([] : List Addr) from z) (by simp), ok, .of_eq ng⟩
    refine codeAny_mono ((F _ kb (ns' nm)).goes callerA [] s₁ H ⟨[.ref a], []⟩ [.ref a] [.ref a] _ _ hr e0 (bd s₁ (.ref a)) (.cons rfl .nil) (hsp H only S)) fun r s' h => ?_
    cases r with
    | error e => exact (noX H e s' h).elim
    | ok fl =>
      cases fl with
      | next => exact h.elim
      | brk => exact h.elim
      | cont => exact h.elim
      | ret u =>
        obtain ⟨v, G, os, bare, chg, ok', r', q⟩ := h
        obtain rfl : v = .bl true := q
        obtain rfl : u = Value.bool true := r'
        refine ⟨rfl, OldK.of_keep fun b o e => ?_, os, bare⟩
        rcases only b with z | ⟨ob, xs, z⟩
        · exact chg.keep b o e z (fun y => absurd (show b ∈ ([] : List Addr) from y) (by simp)) (by simp)
        · obtain ⟨e1, _⟩ := ok b _ z
          obtain ⟨e2, _⟩ := ok' b _ (chg.frzs b ob _ z)
          rw [e] at e1
          cases e1
          exact e2
  by_cases hk : K.lookup a = none
  · have one : ∀ {b : Addr} {u : HO}, (if b = a then some (HO.frz { cls := .type "list", data := .seq vs.toArray } (.lst (ns.map V.int))) else none) = some u → b = a ∧ HO.frz { cls := .type "list", data := .seq vs.toArray } (.lst (ns.map V.int)) = u := fun {b u} z => by
      by_cases hb : b = a
      · rw [if_pos hb] at z; exact ⟨hb, Option.some.inj z⟩
      · rw [if_neg hb] at z; cases z
    refine main (fun b => if b = a then some (.frz { cls := .type "list", data := .seq vs.toArray } (.lst (ns.map V.int))) else none) (fun b => ?_) (.inl (.inr ⟨{ cls := .type "list", data := .seq vs.toArray }, if_pos rfl⟩)) (fun b u z => ?_) fun b z => ?_
    · by_cases hb : b = a
      · exact .inr ⟨_, _, if_pos hb⟩
      · exact .inl (if_neg hb)
    · obtain ⟨rfl, rfl⟩ := one z
      exact ⟨ha, by rw [List.length_map]; exact hl, vs, _, rv, ha⟩
    · refine ⟨?_, hk⟩
      by_cases hb : b = a
      · exact hb
      · exact absurd (if_neg hb) z
  · obtain ⟨o, e⟩ := Option.ne_none_iff_exists'.mp hk
    have e2 := KX a o e
    rw [ha] at e2
    cases e2
    exact main (fun _ => none) (fun _ => .inl rfl) (.inr ⟨_, vs.toArray, _, e, rfl, rfl, rfl, by rw [List.size_toArray, lv]; exact hl, by simpa using rv⟩) (fun b u z => nomatch z) (fun b z => absurd rfl z)
theorem roomG_caller {k : Nat} (h : Room k callerA) : RoomG k callerA := ⟨h, rfl⟩
theorem walkG {l : PySem.W.OpenLaw} {n k : Nat} {q : Program} {loose : List Str} {XP : (Str → Option Value) → Heap → Prop} {YP : World → Heap → Prop} {d : DefRec} {K : Params → PySem.W.Frag} {CX : World → CXT} {sp : World → Sp} {x : Str}
    (hn : l.most = some n) (hn2 : n ≤ sizeLine) (hdf : d.params.defaults = []) (hr : Room k callerA) (hY : ∀ (w : World) (h : Heap), YP w h → (K w.params).In h)
    (F : ∀ (w : World) (mg : Str → Option Value) (fa : Addr) (h : Heap), (K w.params).In h → h.Ns mainGlobals mg → mg d.name = some (.ref fa) →
      ∃ fd : FuncData, (∀ (s : Shared) (u : Value), BindsTo s fd ⟨[u], []⟩ [(x, u)]) ∧ ∀ base : Heap, (K w.params).In base → base.Ns mainGlobals mg → FnG l.prog w (K w.params) mg base (CX w) k fa fd [x] (sp w))
    (hsp : ∀ (w : World) (H : Hp) (a : Addr) (ns : List Int), ns.length ≤ n → Only H → SqL (K w.params) H a (ns.map V.int) → sp w [.ref a] H (fun v _ => v = .bl true) fun _ _ _ => False)
    (noX : ∀ (w : World) (H : Hp) (s : Shared) (e : Value) (s' : Shared), CX w [] H s (fun _ _ _ => False) e s' → False) : PySem.W.WalkO q loose XP YP l.row.toRowW d [] (fun f vs => PySem.call f vs) := by
  refine Att.attach_call hn hdf fun w s₀ s₁ mg mb fa o pm cd doc a vs ns G Y ho hd hcd hmg hobj hints hlen ng => ?_
  have KX := hY w _ Y
  obtain ⟨fd, bd, hF⟩ := F w mg fa _ KX G.T.g hmg
  exact lawG KX G.T.g G.T.b G.T.builtins G.T.nolimit ng hobj hints (Nat.le_trans hlen hn2) (roomG_caller hr) hF bd (fun H only S => hsp w H a ns hlen only S) fun H e s' => noX w H s₁ e s'
end Hx

namespace Hx
open PySem PySem.Spec PyProof.Rows L2
/-- a builtin exception class under which own classes stand -/
structure EB where
  B : String
  newId : String
  initId : String
  bm : List Value
structure EBok (b : EB) : Prop where
  exc : ExcBaseFacts b.B b.newId b.initId b.bm
  st : StoreFacts b.B b.bm "object.__setattr__" "object"
abbrev ebV : EB := ⟨"ValueError", "ValueError.__new__", "ValueError.__init__", [.type "ValueError", .type "Exception", .type "BaseException", .type "object"]⟩
abbrev ebI : EB := ⟨"IndexError", "IndexError.__new__", "IndexError.__init__", [.type "IndexError", .type "LookupError", .type "Exception", .type "BaseException", .type "object"]⟩
abbrev ebO : EB := ⟨"OverflowError", "OverflowError.__new__", "OverflowError.__init__", [.type "OverflowError", .type "ArithmeticError", .type "Exception", .type "BaseException", .type "object"]⟩
abbrev ebR : EB := ⟨"RuntimeError", "RuntimeError.__new__", "RuntimeError.__init__", [.type "RuntimeError", .type "Exception", .type "BaseException", .type "object"]⟩
theorem ebV_ok : EBok ebV := ⟨F.excBase_ValueError, F.store_ValueError⟩
theorem ebI_ok : EBok ebI := ⟨F.excBase_IndexError, F.store_IndexError⟩
theorem ebO_ok : EBok ebO := ⟨F.excBase_OverflowError, F.store_OverflowError⟩
theorem ebR_ok : EBok ebR := ⟨F.excBase_RuntimeError, F.store_RuntimeError⟩
/-- what the written part says of an own exception class at C -/
structure Xc (K : PySem.W.Frag) (b : EB) (C : Addr) : Prop where
  im : PySem.W.excInitIn K C b.bm b.newId = true
  ov : PySem.W.excOver K C b.bm = true
  hd : PySem.W.hasDictIn K C = true
  sa : PySem.W.findIn K (.ref C) "__setattr__" = some (some (.builtin "object.__setattr__"))
  ga : PySem.W.findIn K (.ref C) "__getattribute__" = some (some (.builtin "BaseException.__getattribute__"))
  gg : PySem.W.findIn K (.ref C) "__getattr__" = some none
  exC : PySem.W.subIn K (.ref C) (.type "BaseException") = some true
  tyC : PySem.W.typeIn K (.ref C) = some (.type "type")
  kC : PySem.W.keepIn K (.ref C) = true
  cl : PySem.W.findIn K (.ref C) "__class__" = some (some (.builtin "object.__class__"))
  gs : PySem.W.specialIn K (.builtin "object.__class__") "__get__" = some (some (.builtin "getset_descriptor.__get__"))
  tk : PySem.W.takesIn K (.builtin "object.__class__") = some true
  mo : PySem.W.mroIn K C (.type "object") = some true
theorem Xc.xf {K : PySem.W.Frag} {b : EB} {C : Addr} (T : Xc K b C) : XfC K C := ⟨T.ga, T.gg, T.exC, T.hd⟩
section
variable {pr : Program} {w : World} {A : Around} {R : Result → Shared → Prop} {hp : Heap} {g : Array GenState} {dw : Drawn} {t : Nat} {os : OsState} {K : PySem.W.Frag} {b : EB}
abbrev exOb (C t1 : Addr) (d : Option Addr) : Obj := { cls := .ref C, dict := d, data := .fields #[.ref t1, .none, .none, .none, .bool false, .none] }
theorem sto1 (F : EBok b) {C x t1 : Addr} {nm : Str} {tk : Tok} {v : Value} (T : Xc K b C) (Y : K.In hp) (hx : hp.get? x = some (exOb C t1 none)) (ht : PySem.W.takerIn K C nm = some none)
    (hq : ∀ h' tk' dx, (∀ c o, c ≠ x → hp.get? c = some o → h'.get? c = some o) → hp.objs.size ≤ dx → dx ≠ x → h'.get? x = some (exOb C t1 (some dx)) →
      h'.Ns1 dx (fun y => if y = nm then some v else none) → R (.ok (.ret .none)) ⟨h', g, dw, tk', os⟩) :
    codeAny (model pr w) A (.call (.builtin "object.__setattr__") ⟨[.ref x, .str nm tk, v], []⟩) R ⟨hp, g, dw, t, os⟩ := by
  have lx : x ≠ hp.objs.size := Nat.ne_of_lt (Heap.lt_size hx)
  refine PySem.W.osa_openX (od := none) F.st Y ⟨hx, rfl, rfl, trivial⟩ T.ov ht fun bb => ?_
  obtain ⟨cd, ec, eh⟩ := PySem.W.any_some T.hd
  refine wpAny_bind (wpAny_pure (wpAny_bind (PySem.W.instanceDict_exc hx (PySem.W.looks_clsIn Y ec) eh ?_)))
  refine PySem.HandSPX.store_in_new ?_ fun h' tk' n' s' => ?_
  · exact ⟨_, #[], _, (Heap.get?_update_ne _ _ _ _ lx.symm).trans (Heap.get?_push_at rfl rfl), rfl, fun e he => absurd he (by simp), fun _ => rfl⟩
  · have x1 : (hp.push (PySem.W.dictOf [] 0)).get? x = some (exOb C t1 none) := Heap.get?_push_of_some _ hx
    refine hq h' tk' hp.objs.size (fun c o hc ho => ?_) (Nat.le_refl _) lx.symm ?_ n'
    · exact (s'.2 c (Nat.ne_of_lt (Heap.lt_size ho))).trans ((Heap.get?_update_ne _ _ _ _ hc).trans (Heap.get?_push_of_some _ ho))
    · exact (s'.2 x lx).trans (Heap.get?_update_self _ x1 rfl)
theorem sto2 (F : EBok b) {C x t1 dx : Addr} {nm : Str} {tk : Tok} {v : Value} {m0 : Str → Option Value} {nl : List Str} (T : Xc K b C) (Y : K.In hp) (hx : hp.get? x = some (exOb C t1 (some dx))) (hn : hp.Ns1 dx m0) (hw : Within m0 nl) (hz : nl.length ≤ 1000)
    (ht : PySem.W.takerIn K C nm = some none)
    (hq : ∀ h' tk', (∀ c o, c ≠ dx → hp.get? c = some o → h'.get? c = some o) → h'.Ns1 dx (fun y => if y = nm then some v else m0 y) → R (.ok (.ret .none)) ⟨h', g, dw, tk', os⟩) :
    codeAny (model pr w) A (.call (.builtin "object.__setattr__") ⟨[.ref x, .str nm tk, v], []⟩) R ⟨hp, g, dw, t, os⟩ := by
  obtain ⟨oD, esD, epD, hoD, hdD, _⟩ := hn.count hw
  refine PySem.W.osa_openX (od := some oD) F.st Y ⟨hx, rfl, rfl, hoD⟩ T.ov ht fun bb => ?_
  obtain ⟨cd, ec, eh⟩ := PySem.W.any_some T.hd
  refine wpAny_bind (wpAny_pure (wpAny_bind (wpAny_bind (wpAny_loadPart hx (wpAny_bind ((PySem.W.looks_clsIn Y ec).here ?_))))))
  rw [eh]
  refine wpAny_pure (a := some dx) ?_
  exact PySem.OEX.store_in_old hn hw hz fun h' tk' n' s' => hq h' tk' (fun c o hc ho => (s'.2 c hc).trans ho) n'
end
section
variable {X : Cx} {b : EB} {pins : List (Addr × Obj)} {σ : L2.St} {H : Hp} {s : Shared} {a C dx : Addr} {f : Str} {y : V} {u : Value} {fs : List (Str × V)} {Q : Unit → Shared → Prop} {E : Value → Shared → Prop} {A : Around}
/-- the first field -/
theorem fld1 (F : EBok b) (T : Xc X.K b C) (J : Inv X pins σ H s) (e : H a = some (exo a C none)) (hno : PySem.W.takerIn X.K C f = some none) (ry : RelV y u)
    (go : ∀ dx s', H dx = none → dx ≠ a → Inv X pins σ (upd (upd H dx (exd dx [(f, y)])) a (exo a C (some dx))) s' → Q () s') : wpAny (model X.prog X.w) A (setAttr (.ref a) f u) Q E s := by
  obtain ⟨t1, ho⟩ := exo_at J.hok e
  obtain ⟨hp, g, d, t, os⟩ := s
  refine PySem.W.set_plain J.kIn (ox := exOb C t1 none) (od := none) ⟨ho, rfl, rfl, trivial⟩ T.sa ?_
  refine sto1 F T J.kIn ho hno fun h' tk' dx kp dn dne hx hn => ?_
  have fr : H dx = none := J.hok.fresh dn
  have old : ∀ {c : Addr} {o : Obj}, hp.get? c = some o → c ≠ dx := fun {c o} z => Nat.ne_of_lt (Nat.lt_of_lt_of_le (Heap.lt_size z) dn)
  have oth : ∀ {c : Addr}, H c = none → c ≠ a := fun {c} n z => by rw [z, e] at n; cases n
  refine go dx _ fr dne (J.un (t' := tk') ⟨?_, ?_, ?_, ?_, ?_, ?_, ?_⟩ fun c o z => ?_)
  · exact fun c o z n _ _ => kp c o (oth n) z
  · exact fun c o z n _ _ => ⟨o.slots, kp c o (oth n) z⟩
  · exact fun c o z n _ => by rw [upd_ne (oth n), upd_ne (old z)]; exact n
  · intro c o z _
    by_cases hc : c = a
    · exact ⟨_, hc ▸ hx⟩
    · exact ⟨o, kp c o hc z⟩
  · exact fun c xs z => by rw [upd_ne (at_ne e z exo_tup), upd_ne (ne_of_none z fr)]; exact z
  · exact fun c o v z => by rw [upd_ne (at_ne e z exo_frz), upd_ne (ne_of_none z fr)]; exact z
  · exact fun c ps z => ⟨#[], by rw [upd_ne (at_ne e z exo_tbl), upd_ne (ne_of_none z fr), z]; simp⟩
  · by_cases hc : c = a
    · subst hc; rw [upd_same] at z; cases z; exact exo_ok hx
    rw [upd_ne hc] at z
    by_cases hd : c = dx
    · subst hd; rw [upd_same] at z; cases z; exact exd_ok hn (relO_put (fs := []) ry fun _ => True.intro)
    rw [upd_ne hd] at z
    refine (J.hok c o z).stay (fun i v hi q => kp i v ?_ q) (fun i hi => ?_) (fun i xs hi => ?_)
    · rcases hi with hi | hi
      · exact hi ▸ hc
      · exact at_ne e hi exo_own
    · rw [upd_ne (at_ne e hi exo_own), upd_ne (ne_of_none hi fr)]; exact hi
    · rw [upd_ne (at_ne e hi exo_tup), upd_ne (ne_of_none hi fr)]; exact hi
/-- a further field -/
theorem fld2 (F : EBok b) (T : Xc X.K b C) (J : Inv X pins σ H s) (e : H a = some (exo a C (some dx))) (ed : H dx = some (exd dx fs)) (hl : fs.length ≤ 900) (hno : PySem.W.takerIn X.K C f = some none) (ry : RelV y u)
    (go : ∀ s', Inv X pins σ (upd H dx (exd dx ((f, y) :: fs))) s' → Q () s') : wpAny (model X.prog X.w) A (setAttr (.ref a) f u) Q E s := by
  obtain ⟨t1, ho⟩ := exo_at J.hok e
  obtain ⟨mA, hns, rl⟩ := exd_at J.hok ed
  have hw := within_of rl
  obtain ⟨hp, g, d, t, os⟩ := s
  obtain ⟨oD, _, _, hoD, _, _⟩ := hns.count hw
  refine PySem.W.set_plain J.kIn (ox := exOb C t1 (some dx)) (od := some oD) ⟨ho, rfl, rfl, hoD⟩ T.sa ?_
  refine sto2 F T J.kIn ho hns hw (by rw [List.length_map]; omega) hno fun h' tk' kp n' => ?_
  obtain ⟨oN, _, _, eN, _⟩ := id n'
  exact go _ (J.write (t' := tk') (x := dx) (e := dx) (o := exd dx ((f, y) :: fs)) (by rw [ed]; exact True.intro) (.inl rfl) kp ⟨oN, eN⟩ (exd_ok n' (relO_put ry rl)))
/-- the builtin's __init__ on it -/
theorem bini {us : List Value} {Q : Value → Shared → Prop} (F : EBok b) (T : Xc X.K b C) (J : Inv X pins σ H s) (e : H a = some (exo a C none)) (hl : us.length ≤ sizeLine) (go : ∀ s', Inv X pins σ H s' → Q .none s') :
    wpAny (model X.prog X.w) A (call (.builtin b.initId) (.ref a :: us)) Q E s := by
  obtain ⟨nm, N, qn, bs, bm, hdct, sn, sub, ab, col, dd, k0, k1, k2, k3, k5, hC, hT⟩ := PySem.W.excInit_of J.kIn T.im
  obtain ⟨t1, ho⟩ := exo_at J.hok e
  obtain ⟨hp, g, d, t, os⟩ := s
  refine wpAny_call (PySem.HandSPX.init_base F.exc hT hC ho hl fun h' t2 kp hx => ?_)
  have J2 := J.write (t' := t) (x := a) (e := a) (o := exo a C none) (by rw [e]; exact True.intro) (.inl rfl) kp ⟨_, hx⟩ (exo_ok hx)
  have same : upd H a (exo a C none) = H := funext fun c => by
    by_cases hc : c = a
    · rw [hc, upd_same, e]
    · rw [upd_ne hc]
  rw [same] at J2
  exact go _ J2
end
/-! ### readings and rules: own exceptions made -/
def tIni (K : PySem.W.Frag) (b : EB) (ta : TA) : TE := fun σ H Q => ta σ H fun vs G => ∃ (a C : Addr) (ws : List V), vs = .ref a :: ws ∧ ws.length ≤ 1000 ∧ Xc K b C ∧ G a = some (exo a C none) ∧ Q .non G
def tFld (K : PySem.W.Frag) (b : EB) (f : Str) (to te : TE) : TS := fun D σ H => te σ H fun y G => to σ G fun x J => ∃ a C : Addr, x = .ref a ∧ Xc K b C ∧ PySem.W.takerIn K C f = some none ∧
  ((J a = some (exo a C none) ∧ ∀ dx, J dx = none → dx ≠ a → D.nx σ (upd (upd J dx (exd dx [(f, y)])) a (exo a C (some dx)))) ∨
    ∃ (dx : Addr) (fs : List (Str × V)), J a = some (exo a C (some dx)) ∧ J dx = some (exd dx fs) ∧ fs.length ≤ 900 ∧ D.nx σ (upd J dx (exd dx ((f, y) :: fs))))
section
variable {X : Cx} {b : EB} {o e : Expr} {es : List Expr} {to te : TE} {ta : TA} {f : Str} {p' p1 p2 pos : Pos} {pl : Sem Bool}
/-- what lies behind both ways to BASE.__init__(self, ..) -/
theorem ini_call (F : EBok b) (ha : PA X (e :: es) ta) {pins : List (Addr × Obj)} {s : Shared} {σ : L2.St} {H : Hp} {Q : VK} (J : Inv X pins σ H s) (h : tIni X.K b ta σ H Q)
    (he : starEach (e :: es) X.env = (false, eval e X.env) :: starEach es X.env) (hpl : (backTo pos (starEach es X.env)).any (·.1) = false) :
    wpAny (model X.prog X.w) X.A (callWith pos (.builtin b.initId) [] (backTo pos (starEach (e :: es) X.env)) []) (EP X pins σ Q) X.xe s := by
  refine PyProof.Rows.callWith_method1 (thn (ha.run pos pins s σ H _ J h) fun us s1 hh => ?_) he hpl
  obtain ⟨vs, G, J1, r1, a, C, ws, ev, hl, T, ea, q⟩ := hh
  subst ev
  cases r1 with
  | @cons _ u0 _ ur ra rr =>
    obtain rfl : u0 = Value.ref a := ra
    have big : ur.length ≤ sizeLine := by rw [← Paired.length rr, sizeLine_eq]; omega
    exact bini F T J1 ea big fun s' J2 => ⟨.non, G, J2, rfl, q⟩
theorem pe_iniB {n : Str} (F : EBok b) (hh : PySem.W.handedIn (.builtin b.initId) = true) (hg : Gl X n) (hm : X.mg n = none) (bo : bootBuiltins n = some (.type b.B)) (ty : typeOf (.type b.B) = pure (.type "type")) (stb : Manifest.isStub b.B = false)
    (vV : PySem.W.findCls X.K (.type b.B) (.type "type") "__init__" = some (.val (.builtin b.initId))) (ha : PA X (e :: es) ta)
    (hc : eval (.Call (.Attribute (.Name n p1) "__init__" p2) (e :: es) [] pos) X.env = (do
      let ov ← eval (.Name n p1) X.env
      standAt p2.atName
      let (f, first) ← holding [ov] (getMethod ov "__init__" pl)
      callWith pos f first (backTo pos (starEach (e :: es) X.env)) (backToKw pos (keywordEach [] X.env))) := by rfl)
    (n1 : n ≠ "__name__" := by decide) (n2 : (n == ("__debug__" : Str)) = false := by decide)
    (he : starEach (e :: es) X.env = (false, eval e X.env) :: starEach es X.env := by rfl) (hpl : (backTo pos (starEach es X.env)).any (·.1) = false := by rfl) :
    PE X (.Call (.Attribute (.Name n p1) "__init__" p2) (e :: es) [] pos) (tIni X.K b ta) := by
  refine ⟨fun pins s σ H Q J h => ?_⟩
  refine PySem.W.methodCall_KW (ld_blt J hg hm bo ?_ n1 n2) hc
  obtain ⟨m, fr⟩ := J.fr
  exact PySem.W.method_type fr J.ok.mod.kin ty stb vV hh (ini_call F ha (J.tok _) h he hpl)
theorem pe_iniC {n : Str} {B0 : Addr} (F : EBok b) (hh : PySem.W.handedIn (.builtin b.initId) = true) (hg : Gl X n) (hm : X.mg n = some (.ref B0)) (hs : PySem.W.specialIn X.K (.ref B0) "__getattribute__" = some (some (.builtin "type.__getattribute__"))) (hr : PySem.W.readsIn X.K B0 (.type "type") = true)
    (vV : PySem.W.findCls X.K (.ref B0) (.type "type") "__init__" = some (.val (.builtin b.initId))) (ha : PA X (e :: es) ta)
    (hc : eval (.Call (.Attribute (.Name n p1) "__init__" p2) (e :: es) [] pos) X.env = (do
      let ov ← eval (.Name n p1) X.env
      standAt p2.atName
      let (f, first) ← holding [ov] (getMethod ov "__init__" pl)
      callWith pos f first (backTo pos (starEach (e :: es) X.env)) (backToKw pos (keywordEach [] X.env))) := by rfl)
    (n2 : (n == ("__debug__" : Str)) = false := by decide)
    (he : starEach (e :: es) X.env = (false, eval e X.env) :: starEach es X.env := by rfl) (hpl : (backTo pos (starEach es X.env)).any (·.1) = false := by rfl) :
    PE X (.Call (.Attribute (.Name n p1) "__init__" p2) (e :: es) [] pos) (tIni X.K b ta) := by
  refine ⟨fun pins s σ H Q J h => ?_⟩
  refine PySem.W.methodCall_KW (ld_glob J hg hm ?_ n2) hc
  exact PySem.W.method_cls J.kIn hs (PySem.W.cls_value J.kIn hr vV hh (ini_call F ha (J.tok _) h he hpl))
/-- self.f = e -/
theorem ps_fld (F : EBok b) (ho : PE X o to) (he : PE X e te) (hs : swapsWith e (some (.Attribute o f p')) pos.line X.env = pure false := by rfl) : PS X (.Assign [.Attribute o f p'] e pos) (tFld X.K b f to te) := by
  refine ⟨fun pins s σ H D J h => ?_⟩
  refine plainObj_wpAny_Assign_Attribute (thn (he.run pins s σ H _ J h) fun v s1 hv => ?_) hs
  obtain ⟨y, G, J1, r1, q1⟩ := hv
  refine thn (ho.run pins s1 σ G _ J1 q1) fun u s2 hu => ?_
  obtain ⟨x, G2, J2, r2, a, C, ex, T, hno, q⟩ := hu
  subst ex
  obtain rfl : u = Value.ref a := r2
  rcases q with ⟨ea, q⟩ | ⟨dx, fs, ea, ed, hl, q⟩
  · exact fld1 F T J2 ea hno r1 fun dx s' n ne J3 => ⟨σ, _, J3, q dx n ne⟩
  · exact fld2 F T J2 ea ed hl hno r1 fun s' J3 => ⟨σ, _, J3, q⟩
end
/-- what __init__(self, v) with the one field f keeps -/
def sp_in1 (C : Addr) (f : Str) : Sp := fun vs H Q _ => ∃ (a : Addr) (v : V), vs = [.ref a, v] ∧ H a = some (exo a C none) ∧ ∀ dx, H dx = none → dx ≠ a → Q .non (upd (upd H dx (exd dx [(f, v)])) a (exo a C (some dx)))
/-- with two fields -/
def sp_in2 (C : Addr) (f f2 : Str) : Sp := fun vs H Q _ => ∃ (a : Addr) (v v2 : V), vs = [.ref a, v, v2] ∧ H a = some (exo a C none) ∧
  ∀ dx, H dx = none → dx ≠ a → Q .non (upd (upd (upd H dx (exd dx [(f, v)])) a (exo a C (some dx))) dx (exd dx [(f2, v2), (f, v)]))
section
variable {X : Cx} {e : Expr} {es : List Expr} {ta : TA} {f f2 : Str} {p pos : Pos}
theorem pmk_x {CX : CXT} {x : Str} {b : EB} {C fI : Addr} {k : Nat} {fd : FuncData} {ps : List Str} {sp : Sp} (F : EBok b) (T : Xc X.K b C) (iC : PySem.W.findIn X.K (.ref C) "__init__" = some (some (.ref fI))) (tI : PySem.W.typeIn X.K (.ref fI) = some (.type "function"))
    (G1 : FnG X.prog X.w X.K X.mg X.base CX k fI fd ps sp) (hr : RoomG (k + 1) X.A) (hb : Binds X.K fd ps []) (hx : Passes CX X (fun _ _ _ => False)) (hg : Gl X x) (hm : X.mg x = some (.ref C)) (ha : PA X (e :: es) ta)
    (n2 : (x == ("__debug__" : Str)) = false := by decide) (he : starEach (e :: es) X.env = (false, eval e X.env) :: starEach es X.env := by rfl) (hpl : (backTo pos (starEach es X.env)).any (·.1) = false := by rfl) :
    PMk X (.Call (.Name x p) (e :: es) [] pos) (tMkO C sp [] ta) := by
  intro pins s σ H Q J h
  refine wpAny_Call_Name_kw (ld_glob J hg hm ?_ n2)
  refine PySem.W.callWith_K (h₀ := X.base) J.ok.mod.kin T.kC (thn (ha.run pos pins s σ H _ J h) fun us s1 hh => ?_) he hpl
  obtain ⟨vs, H1, J1, r1, hz, q1⟩ := hh
  refine ⟨J1.kIn, ?_⟩
  show wpAny _ _ (call (.ref C) us) _ _ _
  obtain ⟨nm, N, qn, bs, bm, hdct, sn, sub, ab, col, dd, k0, k1, k2, k3, k5, hC, hT⟩ := PySem.W.excInit_of J1.kIn T.im
  obtain ⟨hp, g, dr, tk, os⟩ := s1
  have up1 : hp.objs.size ≤ hp.objs.size + 1 := Nat.le_succ _
  have hq := q1 (hp.objs.size + 1) (J1.hok.fresh up1)
  have kp : ∀ c o, hp.get? c = some o → ((hp.push (PySem.W.kdv_tup us)).push (PySem.HandSPX.excO C hp.objs.size)).get? c = some o := fun c o z => Heap.get?_push_of_some _ (Heap.get?_push_of_some _ z)
  have at1 : ((hp.push (PySem.W.kdv_tup us)).push (PySem.HandSPX.excO C hp.objs.size)).get? (hp.objs.size + 1) = some (PySem.HandSPX.excO C hp.objs.size) := by heap_get
  have J2 := J1.laid (t' := tk) (a := hp.objs.size + 1) (o := exo (hp.objs.size + 1) C none) kp up1 (exo_ok at1)
  have r2 : Vals (V.ref (hp.objs.size + 1) :: (vs ++ [])) (Value.ref (hp.objs.size + 1) :: (us ++ [])) := .cons rfl (r1.append .nil)
  have el : (Value.ref (hp.objs.size + 1) :: us ++ []).length = ps.length := by
    have z := r2.length
    rw [G1.many _ _ _ _ hq] at z
    exact z.symm
  have eu : us.length ≤ sizeLine := by rw [← Paired.length r1, sizeLine_eq]; omega
  refine wpAny_call (PySem.HandSPX.call_own F.exc hT hC (PySem.W.looks_findIn J1.kIn iC) (fun self => PySem.W.bind_fn J1.kIn self tI) eu ?_)
  have bd := hb ⟨(hp.push (PySem.W.kdv_tup us)).push (PySem.HandSPX.excO C hp.objs.size), g, dr, tk, os⟩ (Value.ref (hp.objs.size + 1) :: us) J2.kIn el
  rw [List.append_nil] at bd r2 hq
  rw [List.append_nil] at r2
  refine codeAny_mono (G1.goes _ X.stack _ _ ⟨Value.ref (hp.objs.size + 1) :: us, []⟩ (Value.ref (hp.objs.size + 1) :: us) _ _ (fun _ _ _ => False) (hr.make C us []) (J2.env0.make C us []) bd r2 hq) fun r s' hq' => ?_
  cases r with
  | error er => exact hx pins σ _ _ er s' J2 hq'
  | ok fl =>
    cases fl with
    | next => exact hq'.elim
    | brk => exact hq'.elim
    | cont => exact hq'.elim
    | ret u =>
      obtain ⟨v, H2, os2, bare2, un2, hok2, rv, ev, d, fs, ea, ed, hd1, q2⟩ := hq'
      subst ev
      obtain ⟨h2, g2, d2, t2, os'⟩ := s'
      exact ⟨rv, mk_end (raises_own T.exC T.tyC) J1 up1 kp un2 hok2 os2 bare2 ea ed hd1 q2⟩
theorem g_mkO {C : Addr} {sp : Sp} {ta : TA} {σ : L2.St} {H : Hp} {Q : XK} (h : ta σ H fun vs G => vs.length ≤ 1000 ∧ ∀ a, G a = none → sp (.ref a :: (vs ++ [])) (upd G a (exo a C none))
    (fun v J => v = .non ∧ ∃ (d : Addr) (fs : List (Str × V)), J a = some (exo a C (some d)) ∧ J d = some (exd d fs) ∧ G d = none ∧ Q (.ref C) (some d) (upd (del J a) d (.xd fs))) (fun _ _ _ => False)) : tMkO C sp [] ta σ H Q := h
theorem g_mk1 {C : Addr} {v : V} {G : Hp} {Q : XK} (q : ∀ d, G d = none → Q (.ref C) (some d) (upd G d (.xd [(f, v)]))) : ([v] : List V).length ≤ 1000 ∧ ∀ a, G a = none → sp_in1 C f (.ref a :: ([v] ++ [])) (upd G a (exo a C none))
    (fun v J => v = .non ∧ ∃ (d : Addr) (fs : List (Str × V)), J a = some (exo a C (some d)) ∧ J d = some (exd d fs) ∧ G d = none ∧ Q (.ref C) (some d) (upd (del J a) d (.xd fs))) (fun _ _ _ => False) := by
  refine ⟨by simp, fun a na => ⟨a, v, rfl, upd_same, fun dx nd ne => ⟨rfl, dx, [(f, v)], upd_same, by rw [upd_ne ne, upd_same], ?_, ?_⟩⟩⟩
  · rw [upd_ne ne] at nd; exact nd
  · rw [upd_ne ne] at nd
    have z : upd (del (upd (upd (upd G a (exo a C none)) dx (exd dx [(f, v)])) a (exo a C (some dx))) a) dx (.xd [(f, v)]) = upd G dx (.xd [(f, v)]) := funext fun c => by
      by_cases c1 : c = dx
      · rw [c1, upd_same, upd_same]
      · rw [upd_ne c1, upd_ne c1]
        by_cases c2 : c = a
        · rw [c2, del_same, na]
        · rw [del_ne c2, upd_ne c2, upd_ne c1, upd_ne c2]
    rw [z]; exact q dx nd
theorem g_mk2 {C : Addr} {v v2 : V} {G : Hp} {Q : XK} (q : ∀ d, G d = none → Q (.ref C) (some d) (upd G d (.xd [(f2, v2), (f, v)]))) : ([v, v2] : List V).length ≤ 1000 ∧ ∀ a, G a = none → sp_in2 C f f2 (.ref a :: ([v, v2] ++ [])) (upd G a (exo a C none))
    (fun v J => v = .non ∧ ∃ (d : Addr) (fs : List (Str × V)), J a = some (exo a C (some d)) ∧ J d = some (exd d fs) ∧ G d = none ∧ Q (.ref C) (some d) (upd (del J a) d (.xd fs))) (fun _ _ _ => False) := by
  refine ⟨by simp, fun a na => ⟨a, v, v2, rfl, upd_same, fun dx nd ne => ⟨rfl, dx, [(f2, v2), (f, v)], by rw [upd_ne (Ne.symm ne), upd_same], upd_same, ?_, ?_⟩⟩⟩
  · rw [upd_ne ne] at nd; exact nd
  · rw [upd_ne ne] at nd
    have z : upd (del (upd (upd (upd (upd G a (exo a C none)) dx (exd dx [(f, v)])) a (exo a C (some dx))) dx (exd dx [(f2, v2), (f, v)])) a) dx (.xd [(f2, v2), (f, v)]) = upd G dx (.xd [(f2, v2), (f, v)]) := funext fun c => by
      by_cases c1 : c = dx
      · rw [c1, upd_same, upd_same]
      · rw [upd_ne c1, upd_ne c1]
        by_cases c2 : c = a
        · rw [c2, del_same, na]
        · rw [del_ne c2, upd_ne c1, upd_ne c2, upd_ne c1, upd_ne c2]
    rw [z]; exact q dx nd
end
/-! ### try: .. except A as e: .. except B as e: .. -/
abbrev Clause := Value × Option Nat × (Addr → Value → Option Addr → TS)
def endAs (D : Ends) (i : Nat) : Ends :=
  let z : (L2.St → Hp → Prop) → L2.St → Hp → Prop := fun k τ G => k (τ.set i none) G
  { nx := z D.nx, rt := D.rt, bk := z D.bk, ct := z D.ct }
def clauseRun (D : Ends) (oi : Option Nat) (t : TS) (a : Addr) (σ : L2.St) (H : Hp) : Prop :=
  match oi with
  | none => t D σ H
  | some i => t (endAs D i) (σ.set i (some (.ref a))) H
def wN (K : PySem.W.Frag) (Wo : WX) (D : Ends) : List Clause → WX
  | [] => Wo
  | (c, oi, ts) :: l => fun cls d σ H => ∃ yes, PySem.W.exmOne K cls c = some yes ∧ (yes = true → ∀ a, H a = none → clauseRun D oi (ts a cls d) a σ H) ∧ (yes = false → wN K Wo D l cls d σ H)
inductive Hnd (X : Cx) : List ExceptHandler → List Clause → Prop
  | nil : Hnd X [] []
  | bare {x : Str} {c : Value} {ts : Addr → Value → Option Addr → TS} {q : Stmt} {qs : List Stmt} {p1 p2 : Pos} {hs : List ExceptHandler} {l : List Clause} (nm : Names X x c)
      (run : ∀ (a : Addr) (oe : Obj) (cls : Value) (d : Option Addr) (pn : List (Addr × Obj)), Zc cls d oe → (∃ vs, oe.data = .fields vs) → PSs (X.suite a ((a, oe) :: pn)) (q :: qs) (ts a cls d)) (r : Hnd X hs l) :
      Hnd X (.ExceptHandler (some (.Name x p1)) none (q :: qs) p2 :: hs) ((c, none, ts) :: l)
  | as {x n : Str} {i : Nat} {c : Value} {ts : Addr → Value → Option Addr → TS} {q : Stmt} {qs : List Stmt} {p1 p2 : Pos} {hs : List ExceptHandler} {l : List Clause} (nm : Names X x c) (nd : X.N.Nodup) (hi : X.N[i]? = some n) (hl : X.env.kindOf n = some .local)
      (run : ∀ (a : Addr) (oe : Obj) (cls : Value) (d : Option Addr) (pn : List (Addr × Obj)), Zc cls d oe → (∃ vs, oe.data = .fields vs) → PSs (X.suite a ((a, oe) :: pn)) (q :: qs) (ts a cls d)) (r : Hnd X hs l) :
      Hnd X (.ExceptHandler (some (.Name x p1)) (some n) (q :: qs) p2 :: hs) ((c, some i, ts) :: l)
section
variable {X : Cx} {body : List Stmt} {h1 : ExceptHandler} {hs : List ExceptHandler} {l : List Clause} {pos : Pos} {tb : WX → TS} {Wo : WX}
theorem ps_tryN (st : X.stack = X.env :: X.outer) (fr : X.env.frame = some X.env.locals) (tk : Takes X Wo)
    (hb : ∀ (W : WX) (pn : List (Addr × Obj)) (xe : Value → Shared → Prop), Takes (X.tr pn xe) W → PassesOwn (model X.prog X.w) X.A X.env xe → PSs (X.tr pn xe) body (tb W)) (hh : Hnd X (h1 :: hs) l) : PS X (.Try body (h1 :: hs) [] [] pos) (fun D σ H => tb (wN X.K Wo D l) D σ H) := by
  refine ⟨fun pins s σ H D J h => ?_⟩
  have ok := J.ok
  have fr2 : X.A.frames = some (X.env :: X.outer) := by rw [ok.frames, st]
  let catch_ : Value → Shared → Prop := fun e s₁ => wpAny (model X.prog X.w) X.A (noteFrame e X.env) (fun _ s₂ =>
    wpAny (model X.prog X.w) X.A (setFlight e none) (fun _ s₃ => wpAny (model X.prog X.w) X.A (handleBy e X.env (h1 :: hs)) (SP X pins D) X.xe s₃) X.xe s₂) X.xe s₁
  refine wpAny_Try_except ?_
  refine wpAny_mono ((hb (wN X.K Wo D l) (X.pn ++ pins) catch_ ?tk PassesOwn.looking).run [] s σ H D (J.toTry _) h) ?fine fun _ _ z => z
  case fine =>
    intro f s1 sp
    cases f with
    | ret u => obtain ⟨v, τ, G, J1, r, q⟩ := sp; exact ⟨v, τ, G, J1.ofTry ok, r, q⟩
    | next => obtain ⟨τ, G, J1, q⟩ := sp; exact wpAny_execs_nil ⟨τ, G, J1.ofTry ok, q⟩
    | brk => obtain ⟨τ, G, J1, q⟩ := sp; exact ⟨τ, G, J1.ofTry ok, q⟩
    | cont => obtain ⟨τ, G, J1, q⟩ := sp; exact ⟨τ, G, J1.ofTry ok, q⟩
  case tk =>
    intro u s' xx
    obtain ⟨a, B, sI, pins', σ', H', cls, d, rfl, J', nb, up, sky, na, os, ag, w⟩ := xx
    have J0 : Inv X pins σ' H' sI := J'.ofTry ok
    rw [show (X.tr (X.pn ++ pins) catch_).stack = X.env :: X.outer from st] at sky
    show wpAny (model X.prog X.w) X.A (noteFrame (.ref a) X.env) _ _ _
    refine Sky.land Zc.steady fr2 fr sky fun k3 fl3 up3 => ?_
    have J3 : Inv X pins σ' H' { s' with heap := k3 } := J0.landed nb fl3.1 (up.trans up3) os ag
    obtain ⟨o3, v3, e3, z3, d3⟩ := fl3.there
    have out : a ∉ frs (X.env :: X.outer) := fun hm => by
      obtain ⟨_, o', e', hn⟩ := fl3.2.2.1.mem hm
      rw [e3] at e'; cases e'
      exact hn _ d3
    have nL : a ≠ X.env.locals := fun z => out (List.mem_filterMap.mpr ⟨X.env, List.mem_cons_self, by rw [fr, z]⟩)
    have nF : a ∉ X.fs := fun hm => by
      obtain ⟨e, he, q⟩ := List.mem_filterMap.mp hm
      exact out (List.mem_filterMap.mpr ⟨e, List.mem_cons_of_mem _ he, q⟩)
    have S3 := J3.suite e3 d3 na nL nF
    have ask : ∀ {x : Str} {c : Value} {np : Pos} {Q : Value → Shared → Prop} {E : Value → Shared → Prop}, Names X x c → Q c { s' with heap := k3 } → wpAny (model X.prog X.w) (X.A.mark (some (.ref a))) (eval (.Name x np) X.env) Q E { s' with heap := k3 } := by
      intro x c np Q E nm q
      obtain ⟨hg, hdbg, hm | ⟨hm, hv, hnn⟩⟩ := nm
      · exact ld_glob (X := X.suite a ((a, o3) :: (X.pn ++ pins))) S3 hg hm q hdbg
      · exact ld_blt (X := X.suite a ((a, o3) :: (X.pn ++ pins))) S3 hg hm hv q hnn hdbg
    have ty3 : PySem.W.Looks (model X.prog X.w) k3 (typeOf (.ref a)) cls := fun A Q E s k q => wpAny_typeOf_ref (k _ _ e3) (by rw [z3.1]; exact q)
    have all : ∀ {hs' : List ExceptHandler} {l' : List Clause}, Hnd X hs' l' → wN X.K Wo D l' cls d σ' H' → wpAny (model X.prog X.w) X.A (handleBy (.ref a) X.env hs') (SP X pins D) X.xe { s' with heap := k3 } := by
      intro hs' l' hk
      induction hk with
      | nil =>
        intro w
        refine wpAny_handleBy_nil ?_
        obtain ⟨_, _, _, oe, vs, T, oT, ts', he, hz, hd, hv1, hr⟩ := id fl3
        unfold PySem.passOn
        refine wpAny_bind (wpAny_field he hd hv1 ?_)
        rw [if_neg (show ¬ ((Value.ref T == Value.none) = true) from by simp)]
        have last : wpAny (model X.prog X.w) X.A (setFlight (.ref a) X.env.frame) (fun _ s4 => wpAny (model X.prog X.w) X.A (throw (.ref a) : Sem Flow) (SP X pins D) X.xe s4) X.xe { s' with heap := k3 } := by
          rw [fr]
          refine HandSPX.setFlight_upZ fl3 fun k4 hk4 up4 => wpAny_throw (tk _ _ ?_)
          exact ⟨a, B, sI, pins, σ', H', cls, d, rfl, J0, nb, (up.trans up3).trans up4, .inr (.inr (by rw [st]; exact hk4)), na, os, ag, w⟩
        first
          | exact wpAny_bind (wpAny_pure (wpAny_bind last))
          | exact wpAny_bind last
      | @bare x c ts q qs p1 p2 hs2 l2 nm run r ih =>
        intro w
        obtain ⟨yes, hy, w1, w2⟩ := w
        refine wpAny_handleBy_cons (codeAny_handlers_test ?_) (by intro q; cases q)
        refine ask nm ((PySem.W.exm_one (M := model X.prog X.w) J3.kIn ty3 hy).here ?_)
        cases yes with
        | false => exact ih (w2 rfl)
        | true =>
          refine codeAny_handlers_suite ?_
          refine HandSPX.lands_againZ fl3 fun k4 fl4 up4 => ?_
          have J4 : Inv X pins σ' H' { s' with heap := k4 } := J0.landed nb fl4.1 ((up.trans up3).trans up4) os ag
          obtain ⟨o4, v4, e4, z4, d4⟩ := fl4.there
          have S4 := J4.suite e4 d4 na nL nF
          refine wpAny_mono ((run a o4 cls d (X.pn ++ pins) z4 ⟨_, d4⟩).run [] _ _ H' _ S4 (w1 rfl a na)) (fun f s6 sp => ?_) (fun _ _ z => False.elim z)
          cases f with
          | ret u => obtain ⟨v6, τ, G, S6, r6, q6⟩ := sp; exact ⟨_, _, _, S6.unsuite ok, r6, q6⟩
          | next => obtain ⟨τ, G, S6, q6⟩ := sp; exact ⟨_, _, S6.unsuite ok, q6⟩
          | brk => obtain ⟨τ, G, S6, q6⟩ := sp; exact ⟨_, _, S6.unsuite ok, q6⟩
          | cont => obtain ⟨τ, G, S6, q6⟩ := sp; exact ⟨_, _, S6.unsuite ok, q6⟩
      | @as x n i c ts q qs p1 p2 hs2 l2 nm nd hi hl run r ih =>
        intro w
        obtain ⟨yes, hy, w1, w2⟩ := w
        refine wpAny_handleBy_cons (codeAny_handlers_test ?_) (by intro q; cases q)
        refine ask nm ((PySem.W.exm_one (M := model X.prog X.w) J3.kIn ty3 hy).here ?_)
        cases yes with
        | false => exact ih (w2 rfl)
        | true =>
          refine codeAny_handlers_suite_as ?_
          refine HandSPX.lands_againZ fl3 fun k4 fl4 up4 => ?_
          have J4 : Inv X pins σ' H' { s' with heap := k4 } := J0.landed nb fl4.1 ((up.trans up3).trans up4) os ag
          obtain ⟨o4, v4, e4, z4, d4⟩ := fl4.there
          have S4 := J4.suite e4 d4 na nL nF
          refine store_ok (X := X.suite a ((a, o4) :: (X.pn ++ pins))) (v := .ref a) S4 nd hi (Or.inl hl) rfl (fun s5 S5 => ?_) (.inr hl)
          refine wpAny_mono ((run a o4 cls d (X.pn ++ pins) z4 ⟨_, d4⟩).run [] s5 _ H' _ S5 (w1 rfl a na)) (fun f s6 sp => ?_) (fun _ _ z => False.elim z)
          have fin : ∀ {τ : L2.St} {G : Hp} {Q : Shared → Prop}, Inv (X.suite a ((a, o4) :: (X.pn ++ pins))) [] τ G s6 → (∀ s7, Inv X pins (τ.set i none) G s7 → Q s7) →
              wpAny (model X.prog X.w) X.A (do bindName X.env n .none; unbindBehindTheSuite X.env n p2) (fun _ s7 => Q s7) X.xe s6 := fun S6 hq => gone_ok (S6.unsuite ok) nd hi hl hq
          cases f with
          | ret u => obtain ⟨v6, τ, G, S6, r6, q6⟩ := sp; exact fin S6 fun s7 J7 => ⟨_, _, _, J7, r6, q6⟩
          | next => obtain ⟨τ, G, S6, q6⟩ := sp; exact fin S6 fun s7 J7 => ⟨_, _, J7, q6⟩
          | brk => obtain ⟨τ, G, S6, q6⟩ := sp; exact fin S6 fun s7 J7 => ⟨_, _, J7, q6⟩
          | cont => obtain ⟨τ, G, S6, q6⟩ := sp; exact fin S6 fun s7 J7 => ⟨_, _, J7, q6⟩
    exact all hh w
end
/-! ### in a suite: isinstance(e, c), e.f -/
def rIsX (K : PySem.W.Frag) (D a : Addr) (cls : Value) (d : Option Addr) : List V → Hp → VK → Prop := fun xs G Q => ∃ (c : V) (cv : Value) (ans : Bool) (dd : Addr) (fs : List (Str × V)), xs = [.ref a, c] ∧ cls = .ref D ∧ (∀ u, RelV c u → u = cv) ∧ PySem.W.kitOne K (.ref D) cv = some ans ∧ d = some dd ∧ G dd = some (.xd fs) ∧ Q (.bl ans) G
theorem call_isX {X : Cx} {b : EB} {a D : Addr} {oe : Obj} {cls : Value} {d : Option Addr} {pn : List (Addr × Obj)} (T : Xc X.K b D) (hz : Zc cls d oe) (hf : ∃ vs, oe.data = .fields vs) : CallR (X.suite a ((a, oe) :: pn)) (.builtin "isinstance") (rIsX X.K D a cls d) := by
  intro pins s σ H xs us Q J r h
  obtain ⟨c, cv, ans, dd, fs, rfl, rfl, hcv, e, rfl, hx, q⟩ := h
  cases r with
  | cons rx rr =>
    cases rr with
    | cons rt rr =>
      cases rr
      cases rx
      cases hcv _ rt
      obtain ⟨at1, _⟩ := J.pin (a, oe) (List.mem_append.mpr (.inl List.mem_cons_self))
      obtain ⟨vs, hv⟩ := hf
      obtain ⟨mA, hns, hr⟩ : ObjOk X.prog X.w H s.heap dd (.xd fs) := J.hok dd _ hx
      obtain ⟨od, ho, _⟩ := lookIn_ns hns
      have I : PySem.W.InstAt s.heap a oe D (some od) := ⟨at1, hz.1, by unfold PySem.W.notCls; rw [hv] <;> rfl, by rw [hz.2]; exact ho⟩
      have hcl : (PySem.W.clsIn X.K D).isSome = true := by
        obtain ⟨cd, hc, _⟩ := PySem.W.any_some T.hd
        rw [hc]; rfl
      exact PySem.W.kia_one (PySem.W.kitx_exc hcl T.ga T.gg T.exC T.cl T.gs T.tk T.mo) J.kIn I e (fun z => nomatch z) fun tk => ⟨.bl ans, H, J.kept (t' := tk) fun _ _ z => z, rfl, q⟩
theorem g_xf {a : Addr} {cls : Value} {d : Option Addr} {C : Addr} {f : Str} {te : TE} {σ : L2.St} {H : Hp} {Q : VK} (h : te σ H fun x G => x = .ref a ∧ cls = .ref C ∧ ∃ (dd : Addr) (fs : List (Str × V)) (v : V), d = some dd ∧ G dd = some (.xd fs) ∧ fs.lookup f = some v ∧ Q v G) : tXf a cls d C f te σ H Q := h
theorem g_xf1 {a C dd : Addr} {f : Str} {v : V} {G : Hp} {R : V → Prop} (hd : G dd = some (.xd [(f, v)])) (q : R v) : V.ref a = .ref a ∧ Value.ref C = .ref C ∧ ∃ (d2 : Addr) (fs : List (Str × V)) (v2 : V), some dd = some d2 ∧ G d2 = some (.xd fs) ∧ fs.lookup f = some v2 ∧ R v2 :=
  ⟨rfl, rfl, dd, _, v, rfl, hd, by simp [List.lookup], q⟩
theorem g_ini {K : PySem.W.Frag} {b : EB} {ta : TA} {σ : L2.St} {H : Hp} {Q : VK} (h : ta σ H fun vs G => ∃ (a C : Addr) (ws : List V), vs = .ref a :: ws ∧ ws.length ≤ 1000 ∧ Xc K b C ∧ G a = some (exo a C none) ∧ Q .non G) : tIni K b ta σ H Q := h
theorem g_sfld {K : PySem.W.Frag} {b : EB} {f : Str} {to te : TE} {D : Ends} {σ : L2.St} {H : Hp} (h : te σ H fun y G => to σ G fun x J => ∃ a C : Addr, x = .ref a ∧ Xc K b C ∧ PySem.W.takerIn K C f = some none ∧
  ((J a = some (exo a C none) ∧ ∀ dx, J dx = none → dx ≠ a → D.nx σ (upd (upd J dx (exd dx [(f, y)])) a (exo a C (some dx)))) ∨
    ∃ (dx : Addr) (fs : List (Str × V)), J a = some (exo a C (some dx)) ∧ J dx = some (exd dx fs) ∧ fs.length ≤ 900 ∧ D.nx σ (upd J dx (exd dx ((f, y) :: fs))))) : tFld K b f to te D σ H := h
theorem taker_of {K : PySem.W.Frag} {C : Addr} {f : Str} (h : PySem.W.findIn K (.ref C) f = some none) : PySem.W.takerIn K C f = some none := by unfold PySem.W.takerIn; rw [h]; rfl
theorem g_clause {D : Ends} {i : Nat} {t : TS} {a : Addr} {σ : L2.St} {H : Hp} (h : t (endAs D i) (σ.set i (some (.ref a))) H) : clauseRun D (some i) t a σ H := h
theorem g_clause0 {D : Ends} {t : TS} {a : Addr} {σ : L2.St} {H : Hp} (h : t D σ H) : clauseRun D none t a σ H := h
/-- the clause that takes it; one that does not -/
theorem wn_yes {K : PySem.W.Frag} {Wo : WX} {D : Ends} {c : Value} {oi : Option Nat} {ts : Addr → Value → Option Addr → TS} {l : List Clause} {cls : Value} {d : Option Addr} {σ : L2.St} {H : Hp} (e : PySem.W.exmOne K cls c = some true)
    (h : ∀ a, H a = none → clauseRun D oi (ts a cls d) a σ H) : wN K Wo D ((c, oi, ts) :: l) cls d σ H := ⟨true, e, fun _ => h, fun z => by cases z⟩
theorem wn_no {K : PySem.W.Frag} {Wo : WX} {D : Ends} {c : Value} {oi : Option Nat} {ts : Addr → Value → Option Addr → TS} {l : List Clause} {cls : Value} {d : Option Addr} {σ : L2.St} {H : Hp} (e : PySem.W.exmOne K cls c = some false)
    (h : wN K Wo D l cls d σ H) : wN K Wo D ((c, oi, ts) :: l) cls d σ H := ⟨false, e, (fun z => nomatch z), fun _ => h⟩
end Hx

namespace PySem
open AutoSeq1 (wpAny_loadPart')
theorem hx_enum_new (l : Addr) (items : Array Value) (n : Nat) (dct : Option Addr) (sl : Array (Option Value)) :
    Meets (Builtin.«enumerate.__new__» ⟨[.type "enumerate", .ref l], []⟩) (fun _ R s => s.heap.get? l = some { cls := .type "tuple", dict := dct, data := .seq items n, slots := sl } ∧
      R (.ok (.ret (.ref (s.heap.push { cls := .type "tuple_iterator", data := .fields #[.ref l, .int 0 0] }).objs.size)))
        { s with heap := (s.heap.push { cls := .type "tuple_iterator", data := .fields #[.ref l, .int 0 0] }).push { cls := .type "enumerate", data := .fields #[.none, .bool false, .ref s.heap.objs.size, rawInt 0, .none, .none] } }) :=
  .of_wp fun prog w A R s h => by
    obtain ⟨hp, g, d, tk, os⟩ := s
    obtain ⟨ht, h⟩ := h
    have sub := sub_enumerate
    have T : Heap.IsTuple (Shared.heap ⟨hp, g, d, tk, os⟩) l items := ⟨_, ht, rfl, n, rfl⟩
    wp_walk using wpAny_loadPart' ht
    refine wpAny_stack_any fun st => wpAny_pure ?_
    split
    · rename_i c _ _ _ _ _
      cases (c == Value.type "enumerate") <;> (wp_walk using wpAny_loadPart' ht, wpAny_pyIter_tuple T) <;> exact ⟨_, rfl, h⟩
    · wp_walk using wpAny_loadPart' ht, wpAny_pyIter_tuple T
      exact ⟨_, rfl, h⟩
theorem hx_enum_call {prog : Program} {w : World} {A : Around} {E : Value → Shared → Prop} {s : Shared} {l : Addr} {items : Array Value} {Q : Value → Shared → Prop} (T : s.heap.IsTuple l items)
    (h : ∀ h', IsEnum h' (s.heap.objs.size + 1) s.heap.objs.size 0 .none → h'.IsTupleIter s.heap.objs.size l 0 → h'.objs.size = s.heap.objs.size + 2 → (∀ b o, s.heap.get? b = some o → h'.get? b = some o) → Q (.ref (s.heap.objs.size + 1)) { s with heap := h' }) :
    wpAny (model prog w) A (call (.type "enumerate") [.ref l]) Q E s := by
  obtain ⟨⟨c, dct, dt, sl⟩, hl, rfl, n, rfl⟩ := T
  refine callType_new F.called_enumerate (by decide) (F.typeCall_enumerate_1 _) (F.newCall_enumerate_1 _) (fun obj => F.args_object_init_2 obj _) F.entry_enumerate_new (hx_enum_new l items n dct sl) ⟨hl, ?_⟩
  have z : (s.heap.push { cls := .type "tuple_iterator", data := .fields #[.ref l, .int 0 0] }).objs.size = s.heap.objs.size + 1 := Heap.size_push ..
  show _ ∧ _
  rw [z]
  have E1 : IsEnum ((s.heap.push { cls := .type "tuple_iterator", data := .fields #[.ref l, .int 0 0] }).push { cls := .type "enumerate", data := .fields #[.none, .bool false, .ref s.heap.objs.size, rawInt 0, .none, .none] })
      (s.heap.objs.size + 1) s.heap.objs.size 0 .none := by
    have y := Heap.get?_push_size (s.heap.push { cls := .type "tuple_iterator", data := .fields #[.ref l, .int 0 0] }) (o := { cls := .type "enumerate", data := .fields #[.none, .bool false, .ref s.heap.objs.size, rawInt 0, .none, .none] }) rfl
    rw [z] at y
    exact y
  exact ⟨⟨_, E1, rfl⟩, h _ E1 ⟨_, Heap.get?_push_of_some _ (Heap.get?_push_size _ rfl), rfl, rfl⟩ (by rw [Heap.size_push, z]) fun b o x => Heap.get?_push_of_some _ (Heap.get?_push_of_some _ x)⟩
end PySem
namespace Hx
open PySem PySem.Spec PyProof.Rows L2
/-! ### enumerate of a tuple -/
def IteT (K : PySem.W.Frag) (a : Addr) : It :=
  ⟨fun i H => ∃ (xs : List V) (x : V), SqT K H a xs ∧ xs[i]? = some x, fun i H v H' => ∃ T x, v = .ref T ∧ H T = none ∧ H' = upd H T (.tup [.int (i : Nat), x]) ∧ ∀ xs, SqT K H a xs → xs[i]? = some x, fun i H => ∃ xs : List V, SqT K H a xs ∧ xs.length ≤ i⟩
theorem turn_enT {P : Program} {w : World} {K : PySem.W.Frag} {elts : List Expr} {kk : Nat} {tpos : Pos} (a e it : Addr) :
    Turn P w K (.Tuple elts kk tpos) (IteT K a) [e, it] e (fun i h => (∃ old, IsEnum h e it ((i : Nat) : Int) old) ∧ h.IsTupleIter it a i ∧ e ≠ it ∧ e ≠ a ∧ a ≠ it) where
  mem := by simp
  obj := fun i h st b hb => by
    obtain ⟨⟨old, he⟩, ⟨o, ho, hc, hd⟩, _⟩ := st
    rcases (show b = e ∨ b = it by simpa using hb) with z | z
    · rw [z]; exact ⟨_, he, fun v q => nomatch q⟩
    · rw [z]; exact ⟨o, ho, fun v q => by rw [hd] at q; cases q⟩
  keep := fun i h h' st k => let ⟨⟨old, he⟩, hi, hne⟩ := st; ⟨⟨old, k e (by simp) _ he⟩, hi.at fun o q => k it (by simp) o q, hne⟩
  item := by
    intro X hP hw hK hc i pins s σ H E I hf st hg
    subst hP hw hK
    obtain ⟨⟨old, he⟩, hit, n1, n2, n3⟩ := st
    obtain ⟨xs, x, hq, hx⟩ := hg
    obtain ⟨its, rv, p, hz⟩ := I.tuple hq
    obtain ⟨u, hu, ru⟩ := rv.get hx
    have le : e < s.heap.objs.size := Heap.lt_size he
    have li : it < s.heap.objs.size := by obtain ⟨_, q, _⟩ := hit; exact Heap.lt_size q
    have lt : i < its.toArray.size := by
      have := (List.getElem?_eq_some_iff.mp hu).1
      simpa using this
    refine wpAny_pyNext_enum_itemD (Draws.tuple (A := X.A.in1) (I.ok.hd hc) it a n3 its.toArray) he ⟨hit, p⟩ lt n1 (by simp [n1, n2]) fun x' h' tk hP ho st2 hT hsz hk => ?_
    obtain rfl : x' = u := Option.some.inj (hP.symm.trans (by simpa using hu))
    refine ⟨_, rfl, wpAny_letOwnedTupleGo_enum (s := { s with heap := h', toks := tk + 1 }) ho fun h'' he' sb => ?_⟩
    have hT2 : h''.get? s.heap.objs.size = some { cls := .type "tuple", data := .seq #[.int i tk, x'] } := (sb.2 _ (Nat.ne_of_gt le)).trans hT
    have new : ObjOk X.prog X.w (upd H s.heap.objs.size (.tup [.int (i : Nat), x])) h'' s.heap.objs.size (.tup [.int (i : Nat), x]) :=
      ⟨by show 2 ≤ sizeLine; decide, [.int i tk, x'], .cons ⟨_, rfl⟩ (.cons ru .nil), ⟨_, hT2, rfl, _, rfl⟩⟩
    have I1 : Inv X pins σ (upd H s.heap.objs.size (.tup [.int (i : Nat), x])) { s with heap := h'', toks := tk + 1 } :=
      I.turnedNew (ch := [e, it]) (fun b ob hb q => (sb.2 b (fun z => hb (by simp [z]))).trans (hk b ob (fun z => hb (by simp [z])) (fun z => hb (by simp [z])) q)) hf (Nat.le_refl _) new
    refine ⟨.ref s.heap.objs.size, _, I1, rfl, ⟨_, x, rfl, I.hok.fresh (Nat.le_refl _), rfl, fun ys hy => by rw [I.tuple_inj hy hq]; exact hx⟩, ⟨⟨x', ?_⟩, st2.1.at fun o q => (sb.2 it (Ne.symm n1)).trans q, n1, n2, n3⟩, fun b hb => ?_⟩
    · rw [show ((i + 1 : Nat) : Int) = (i : Int) + 1 by omega]; exact he'
    · have lb : b < s.heap.objs.size := by
        rcases (show b = e ∨ b = it by simpa using hb) with z | z
        · rw [z]; exact le
        · rw [z]; exact li
      rw [upd_ne (Nat.ne_of_lt lb)]
      exact (hf b hb).1
  done := by
    intro X hP hw hK hc i pins s σ H E I hf st hg
    subst hP hw hK
    obtain ⟨⟨old, he⟩, hit, n1, n2, n3⟩ := st
    obtain ⟨xs, hq, hx⟩ := hg
    obtain ⟨its, rv, p, hz⟩ := I.tuple hq
    obtain ⟨f0, f1, f2, f3, f4, f5⟩ := hf it (by simp)
    have hl := rv.length
    have st' : s.heap.IsTupleIter it a i ∧ s.heap.IsTuple a its.toArray := ⟨hit, p⟩
    refine wpAny_pyNext_enum_endD (n := its.toArray.size) (i := i) (St := fun j h => h.IsTupleIter it a i ∧ h.IsTuple a its.toArray ∧ j = its.toArray.size) (P := fun _ _ => False) (fp := [it, a]) ?_ he ⟨hit, p, rfl⟩ fun h' eb => ⟨rfl, I.turned (t' := s.toks) (fun b o hb q => eb b o hb q) f0 f1 f3 f4 f5⟩
    exact { live := fun _ _ st => (let ⟨o, ho, _⟩ := st.1; ⟨o, ho⟩), frame := fun _ _ _ st hk => ⟨st.1.at fun o e => hk it (by simp) o e, st.2.1.at fun o e => hk a (by simp) o e, st.2.2⟩,
            item := fun j s Q E hj st hQ => absurd st.2.2 (Nat.ne_of_lt hj),
            done := fun s Q E st hE => wpAny_nextOf_tuple_end (I.ok.hd hc) st.1 st.2.1 (by simp; omega) hE }
  self := fun A i s Q E st h => let ⟨⟨_, he⟩, _⟩ := st; wpAny_pyIter_enum he h
/-- enumerate of a list or of a tuple -/
def iEnA (K : PySem.W.Frag) (ta : TA) : TI := fun σ H R => ta σ H fun vs H1 => (∃ a xs, vs = [.ref a] ∧ SqL K H1 a xs ∧ R (Ite K a) H1) ∨ ∃ a xs, vs = [.ref a] ∧ SqT K H1 a xs ∧ R (IteT K a) H1
theorem pi_enA {X : Cx} {K : PySem.W.Frag} {e : Expr} {ta : TA} {p pos tpos : Pos} {elts : List Expr} {kk : Nat} (hK : X.K = K) (hg : Gl X "enumerate") (hm : X.mg "enumerate" = none) (ha : PA X [e] ta) (hs : starEach [e] X.env = [(false, eval e X.env)] := by rfl) :
    PI X (.Tuple elts kk tpos) (.Call (.Name "enumerate" p) [e] [] pos) (iEnA K ta) := by
  subst hK
  refine ⟨fun pins s σ H R I h => ?_⟩
  refine Call_ (ld_blt I hg hm boot_enumerate (PyProof.Rows.callWith_type1 (thn (ha.run pos pins s σ H _ I h) fun us s1 hh => ?_) hs rfl))
  obtain ⟨vs, H1, I1, r1, q1⟩ := hh
  have fresh2 : ∀ b ∈ [s1.heap.objs.size + 1, s1.heap.objs.size], s1.heap.objs.size ≤ b := fun b hb => by
    rcases (show b = s1.heap.objs.size + 1 ∨ b = s1.heap.objs.size by simpa using hb) with z | z <;> omega
  rcases q1 with ⟨a, xs, rfl, hq, q⟩ | ⟨a, xs, rfl, hq, q⟩
  · cases r1 with
    | cons r rr =>
      cases rr; cases r
      obtain ⟨its, rv, p', hz⟩ := I1.list hq
      refine call_enumerate_list p'.isList fun h' he hit hsz hk => wpAny_pyIter_enum he ?_
      exact ⟨s1.heap.objs.size + 1, [s1.heap.objs.size + 1, s1.heap.objs.size], _, _, H1, rfl, I1.kept (t' := s1.toks) hk, turn_enum a (s1.heap.objs.size + 1) s1.heap.objs.size, ⟨⟨.none, he⟩, hit, Nat.succ_ne_self _⟩,
        fun b hb => I1.fpOk (fresh2 b hb) (I1.hok.fresh (fresh2 b hb)), q⟩
  · cases r1 with
    | cons r rr =>
      cases rr; cases r
      obtain ⟨its, rv, p', hz⟩ := I1.tuple hq
      refine hx_enum_call p' fun h' he hit hsz hk => wpAny_pyIter_enum he ?_
      have la : a < s1.heap.objs.size := by obtain ⟨o, ho, _⟩ := p'; exact Heap.lt_size ho
      exact ⟨s1.heap.objs.size + 1, [s1.heap.objs.size + 1, s1.heap.objs.size], _, _, H1, rfl, I1.kept (t' := s1.toks) hk, turn_enT a (s1.heap.objs.size + 1) s1.heap.objs.size, ⟨⟨.none, he⟩, hit, Nat.succ_ne_self _, Nat.ne_of_gt (Nat.lt_succ_of_lt la), Nat.ne_of_lt la⟩,
        fun b hb => I1.fpOk (fresh2 b hb) (I1.hok.fresh (fresh2 b hb)), q⟩
theorem walk_enT {K : PySem.W.Frag} {a : Addr} {xs : List V} : Walk (IteT K a) xs.length (fun H => SqT K H a xs) (YPair (fun i => some (.int (i : Nat))) (fun i => xs[i]?)) := by
  refine ⟨fun i _ hi q => ⟨xs, xs[i], q, by simp [hi]⟩, fun _ q => ⟨xs, q, Nat.le_refl _⟩, fun i H v H' _ q y => ?_⟩
  obtain ⟨T, x, h1, h2, h3, h4⟩ := y
  exact ⟨T, .int (i : Nat), x, h1, h2, h3, rfl, h4 xs q⟩
theorem g_iEnA {K : PySem.W.Frag} {ta : TA} {σ : L2.St} {H : Hp} {R : It → Hp → Prop} (q : ta σ H fun vs H1 => (∃ a xs, vs = [.ref a] ∧ SqL K H1 a xs ∧ R (Ite K a) H1) ∨ ∃ a xs, vs = [.ref a] ∧ SqT K H1 a xs ∧ R (IteT K a) H1) : iEnA K ta σ H R := q
theorem g_enSq {K : PySem.W.Frag} {H0 H : Hp} {a : Addr} {xs : List V} {ta : TA} {σ : L2.St} {R : It → Hp → Prop} (e : ∀ Q : List V → Hp → Prop, Q [.ref a] H → ta σ H Q) (h : Sq K H0 a xs) (e0 : Same H0 H)
    (q : ∀ J G, Walk J xs.length G (YPair (fun i => some (.int (i : Nat))) (fun i => xs[i]?)) → (∀ H', Same H0 H' → G H') → R J H) : iEnA K ta σ H R :=
  e _ (h.elim (fun h => .inl ⟨a, xs, rfl, sq_same e0 h, q _ _ walk_enum fun _ e => sq_same e h⟩) fun h => .inr ⟨a, xs, rfl, st_same e0 h, q _ _ walk_enT fun _ e => st_same e h⟩)
/-- the type of a list or a tuple -/
theorem sq_type {K : PySem.W.Frag} {H : Hp} {a : Addr} {xs : List V} (h : Sq K H a xs) : ∃ t, TyX K H (.ref a) t ∧ (t = .type "list" ∨ t = .type "tuple") := by
  rcases h with ((h | ⟨o, h⟩) | h) | ((h | ⟨o, h⟩) | h)
  · exact ⟨_, .base (.lst h), .inl rfl⟩
  · exact ⟨_, .base (.frz h), .inl rfl⟩
  · obtain ⟨o, vs, n, e, c, _⟩ := h; exact ⟨_, .kList e c, .inl rfl⟩
  · exact ⟨_, .base (.tup h), .inr rfl⟩
  · exact ⟨_, .fTuple h, .inr rfl⟩
  · obtain ⟨o, vs, n, e, c, _⟩ := h; exact ⟨_, .kTuple e c, .inr rfl⟩
/-! ### data that is alike -/
theorem g_neR {K : PySem.W.Frag} {H : Hp} {Q : VK} {x y : V} {d : PyData} (hd : Dp K H x d) (he : Dp K H y d) (s : SeqAt.shaped d = true) (q : Q (.bl false) H) : rNeU K x y H Q :=
  g_neD hd he s s (by rw [SeqAt.eqv_refl d (SeqAt.canLay_of_shaped s)]; exact q)
theorem g_eqR {K : PySem.W.Frag} {H : Hp} {Q : VK} {x y : V} {d : PyData} (hd : Dp K H x d) (he : Dp K H y d) (s : SeqAt.shaped d = true) (q : Q (.bl true) H) : rEqU K x y H Q :=
  g_eqD hd he s s (by rw [SeqAt.eqv_refl d (SeqAt.canLay_of_shaped s)]; exact q)
/-- a text's signs are signs -/
def okS (z : Str) : Prop := (z.cps.all fun c => decide (c < 0x110000)) = true
theorem lay_str {z : Str} (h : okS z) : (PyData.str z).canLay0 = true := h
theorem lay_nil : PyData.canLayAll0 [] = true := rfl
theorem lay_cons {d : PyData} {ds : List PyData} (h : d.canLay0 = true) (k : PyData.canLayAll0 ds = true) : PyData.canLayAll0 (d :: ds) = true := by rw [PyData.canLayAll0, h, k]; rfl
theorem shape_list {ds : List PyData} (h : PyData.canLayAll0 ds = true) (k : PyData.depthAll ds ≤ 63) : SeqAt.shaped (.list ds) = true := by
  unfold SeqAt.shaped
  rw [PyData.canLay0, h, Bool.true_and]
  exact decide_eq_true (by rw [PyData.depth]; omega)
theorem shape_tuple {ds : List PyData} (h : PyData.canLayAll0 ds = true) (k : PyData.depthAll ds ≤ 63) : SeqAt.shaped (.tuple ds) = true := by
  unfold SeqAt.shaped
  rw [PyData.canLay0, h, Bool.true_and]
  exact decide_eq_true (by rw [PyData.depth]; omega)
/-! ### dicts laid -/
theorem g_dnew {σ : L2.St} {H : Hp} {Q : VK} (q : ∀ p, H p = none → Q (.ref p) (upd H p (.dK []))) : tDNewK σ H Q := q
theorem g_disp {trs : List (TE × TE)} {σ : L2.St} {H : Hp} {Q : VK} (q : ∀ p, H p = none → tPairs trs σ (upd H p (.dK [])) fun ps H2 => H2 p = some (.dK []) ∧ ∃ kvs : List (Key × V), ps = kvs.map (fun kv => (kV kv.1, kv.2)) ∧ kvs.length ≤ 15 ∧ Q (.ref p) (upd H2 p (.dK (mergeK [] kvs)))) : tDisp trs σ H Q := q
/-! ### slices of lists -/
theorem cutV_to {xs : List V} {k : Nat} : cutV xs none (some (k : Int)) = xs.take k := by
  unfold cutV
  rw [HT.sIx_none, HT.sIx_nat, List.drop_zero, Nat.sub_zero]
  by_cases h : k ≤ xs.length
  · rw [Nat.min_eq_left h]
  · rw [Nat.min_eq_right (by omega), List.take_of_length_le (Nat.le_refl _), List.take_of_length_le (by omega)]
theorem cutV_from {xs : List V} {k : Nat} : cutV xs (some (k : Int)) none = xs.drop k := by
  unfold cutV
  rw [HT.sIx_none, HT.sIx_nat]
  by_cases h : k ≤ xs.length
  · rw [Nat.min_eq_left h, List.take_of_length_le (by rw [List.length_drop]; exact Nat.le_refl _)]
  · rw [Nat.min_eq_right (by omega), List.drop_of_length_le (Nat.le_refl _), List.drop_of_length_le (by omega), List.take_nil]
/-! ### list of a text -/
theorem vals_signs {z : Str} {acc : Array Value} (h : ItemsOf (SignAt z) acc z.cps.size) : Vals (z.cps.toList.map fun c => V.str ⟨#[c]⟩) acc.toList := by
  obtain ⟨hn, hi⟩ := h
  have key : ∀ (l : List Nat) (vs : List Value), l.length = vs.length → (∀ (j : Nat) (v : Value), vs[j]? = some v → ∃ (c : Nat) (u : Tok), l[j]? = some c ∧ v = Value.str ⟨#[c]⟩ u) → Vals (l.map fun c => V.str ⟨#[c]⟩) vs := by
    intro l
    induction l with
    | nil =>
      intro vs e _
      cases vs with
      | nil => exact .nil
      | cons v r => cases e
    | cons c l ih =>
      intro vs e hv
      cases vs with
      | nil => cases e
      | cons v r =>
        obtain ⟨c', u, e1, e2⟩ := hv 0 v rfl
        cases e1
        exact .cons ⟨u, e2⟩ (ih r (by simpa using e) fun j v h => hv (j + 1) v h)
  refine key _ _ (by rw [Array.length_toList, Array.length_toList, hn]) fun j v h => ?_
  obtain ⟨c, u, e1, e2⟩ := hi j v (by rw [← Array.getElem?_toList]; exact h)
  exact ⟨c, u, by rw [Array.getElem?_toList]; exact e1, e2⟩
def rListS : List V → Hp → VK → Prop := fun xs H Q => ∃ z, xs = [.str z] ∧ z.length ≤ 1000000 ∧ ∀ p, H p = none → Q (.ref p) (upd H p (.lst (z.cps.toList.map fun c => V.str ⟨#[c]⟩)))
theorem call_listS {X : Cx} (hc : X.calm = true) : CallR X (.type "list") rListS := by
  intro pins s σ H xs us Q I r h
  obtain ⟨z, rfl, hz, q⟩ := h
  obtain ⟨u, rfl, rx⟩ := vals1 r
  obtain ⟨t, rfl⟩ := (show ∃ t, u = Value.str z t from rx)
  have sz : z.cps.size ≤ sizeLine := by rw [sizeLine_eq]; have : z.cps.size ≤ 1000000 := hz; omega
  refine call_list_str (hn := sz) (I.ok.hd hc) z t fun h' tk acc c' kp e it => ?_
  have rv := vals_signs it
  obtain ⟨l⟩ := acc
  exact ⟨.ref s.heap.objs.size, _, I.laid (t' := tk) kp (Nat.le_refl _) (show ObjOk X.prog X.w _ h' _ (.lst (z.cps.toList.map fun c => V.str ⟨#[c]⟩)) from ⟨by rw [List.length_map, Array.length_toList]; exact sz, l, c', rv, e⟩), rfl, q _ (I.hok.fresh (Nat.le_refl _))⟩
def rListV (K : PySem.W.Frag) : List V → Hp → VK → Prop := fun xs H Q => (∃ p ys, xs = [.ref p] ∧ (SqL K H p ys ∨ SqT K H p ys) ∧ ∀ l, H l = none → Q (.ref l) (upd H l (.lst ys))) ∨ rListS xs H Q
theorem call_listV {X : Cx} {K : PySem.W.Frag} (hK : X.K = K) (hc : X.calm = true) : CallR X (.type "list") (rListV K) := by
  subst hK
  exact call_list_of.or (call_listS hc)
theorem g_listSq {K : PySem.W.Frag} {H : Hp} {Q : VK} {a : Addr} {xs : List V} (h : Sq K H a xs) (q : ∀ p, H p = none → Q (.ref p) (upd H p (.lst xs))) : rListV K [.ref a] H Q := .inl ⟨a, xs, rfl, h, q⟩
theorem g_listS {K : PySem.W.Frag} {H : Hp} {Q : VK} {z : Str} (hz : z.length ≤ 1000000) (q : ∀ p, H p = none → Q (.ref p) (upd H p (.lst (z.cps.toList.map fun c => V.str ⟨#[c]⟩)))) : rListV K [.str z] H Q := .inr ⟨z, rfl, hz, q⟩
theorem l_type {K : PySem.W.Frag} {H : Hp} {a : Addr} {xs : List V} (h : SqL K H a xs) : TyX K H (.ref a) (.type "list") := by
  rcases h with (h | ⟨o, h⟩) | h
  · exact .base (.lst h)
  · exact .base (.frz h)
  · obtain ⟨o, vs, n, e, c, _⟩ := h; exact .kList e c
end Hx

namespace Dx
open PySem PySem.Spec PyProof.Rows L2 Hx
/-! ## data without a heap -/
inductive D where
  | non | bl (b : Bool) | int (i : Int) | str (s : Str) | lst (ds : List D) | tup (ds : List D) | dct (kvs : List (D × D)) | ins (c : Str) (fs : List (Str × D)) | scr (ds : List D) | ty (n : String)
/-- a local name's content: nothing, a value, a list of its own (o: the caller's), a dict of its own -/
inductive Slot where
  | un | tr (d : D) | ol (o : Bool) (ds : List D) | od (b : Bool) (kvs : List (D × D))
abbrev Env := List Slot
/-- what an expression gives: a value, the own content of slot i, a list or dict that nobody holds -/
inductive W where
  | t (d : D) | o (i : Nat) | f (ds : List D) | g (b : Bool) (kvs : List (D × D))
inductive Z (α : Type) where
  | ok (a : α) (ρ : Env) | ex (c : Str) (fs : List (Str × D)) (ρ : Env) | bad
def Z.bind {α β : Type} : Z α → (α → Env → Z β) → Z β
  | .ok a ρ, k => k a ρ
  | .ex c fs ρ, _ => .ex c fs ρ
  | .bad, _ => .bad
abbrev EM := Env → Z W
inductive Sig where
  | nx | bk | ct | rt (w : W)
abbrev SM := Env → Z Sig
abbrev TM := Env → Z Bool
abbrev AM := Env → Z (List W)
/-- what a def gives: a value and the io list's content -/
inductive Fr where
  | ok (w : W) (io : List D) | ex (c : Str) (fs : List (Str × D)) (io : List D) | bad
def W.st : W → W
  | .f ds => .t (.lst ds)
  | .g _ kvs => .t (.dct kvs)
  | .t d => .t d
  | .o i => .o i
def pkS : Option Slot → Option D
  | some (.ol _ ds) => some (.lst ds)
  | some (.od _ kvs) => some (.dct kvs)
  | some (.tr d) => some d
  | some .un => none
  | none => none
def pk : W → Env → Option D
  | .t d, _ => some d
  | .f ds, _ => some (.lst ds)
  | .g _ kvs, _ => some (.dct kvs)
  | .o i, ρ => pkS ρ[i]?
/-- given away: an own content becomes a value for good -/
def fzS : Option Slot → Nat → Env → Z D
  | some (.ol false ds), i, ρ => .ok (.lst ds) (ρ.set i (.tr (.lst ds)))
  | some (.ol true _), _, _ => .bad
  | some (.od _ kvs), i, ρ => .ok (.dct kvs) (ρ.set i (.tr (.dct kvs)))
  | some (.tr d), _, ρ => .ok d ρ
  | some .un, _, _ => .bad
  | none, _, _ => .bad
def fz : W → Env → Z D
  | .t d, ρ => .ok d ρ
  | .f ds, ρ => .ok (.lst ds) ρ
  | .g _ kvs, ρ => .ok (.dct kvs) ρ
  | .o i, ρ => fzS ρ[i]? i ρ
@[simp] def fzs : List W → Env → Z (List D)
  | [], ρ => .ok [] ρ
  | w :: ws, ρ => (fz w ρ).bind fun d ρ1 => (fzs ws ρ1).bind fun ds ρ2 => .ok (d :: ds) ρ2
def toZ {α : Type} : Option α → Env → Z α
  | some a, ρ => .ok a ρ
  | none, _ => .bad
/-! ## reading -/
def kD : Key → D
  | .inl i => .int i
  | .inr s => .str s
section
variable (K : PySem.W.Frag) (mg : Str → Option Value)
mutual
inductive Rd (F : Hp) : V → D → Prop
  | non : Rd F .non .non
  | bl (b : Bool) : Rd F (.bl b) (.bl b)
  | int (i : Int) : Rd F (.int i) (.int i)
  | str (s : Str) : Rd F (.str s) (.str s)
  | lst {a : Addr} {vs : List V} {ds : List D} : F a = some (.lst vs) → RdL F vs ds → Rd F (.ref a) (.lst ds)
  | scr {a : Addr} {vs : List V} {ds : List D} : SqL K F a vs → RdL F vs ds → Rd F (.ref a) (.scr ds)
  | ty (n : String) : Rd F (.ty n) (.ty n)
  | tup {a : Addr} {vs : List V} {ds : List D} : F a = some (.tup vs) → RdL F vs ds → Rd F (.ref a) (.tup ds)
  | dK {a : Addr} {kvs : List (Key × V)} {es : List (D × D)} : F a = some (.dK kvs) → RdK F kvs es → Rd F (.ref a) (.dct es)
  | dT {a : Addr} {kvs : List (List Key × V)} {es : List (D × D)} : F a = some (.dT kvs) → RdT F kvs es → Rd F (.ref a) (.dct es)
  | ins {a C dx : Addr} {c : Str} {fs : List (Str × V)} {ds : List (Str × D)} : mg c = some (.ref C) → F a = some (.ins C dx fs) → RdF F fs ds → Rd F (.ref a) (.ins c ds)
inductive RdL (F : Hp) : List V → List D → Prop
  | nil : RdL F [] []
  | cons {v : V} {vs : List V} {d : D} {ds : List D} : Rd F v d → RdL F vs ds → RdL F (v :: vs) (d :: ds)
inductive RdF (F : Hp) : List (Str × V) → List (Str × D) → Prop
  | nil : RdF F [] []
  | cons {n : Str} {v : V} {vs : List (Str × V)} {d : D} {ds : List (Str × D)} : Rd F v d → RdF F vs ds → RdF F ((n, v) :: vs) ((n, d) :: ds)
inductive RdK (F : Hp) : List (Key × V) → List (D × D) → Prop
  | nil : RdK F [] []
  | cons {k : Key} {v : V} {vs : List (Key × V)} {d : D} {ds : List (D × D)} : Rd F v d → RdK F vs ds → RdK F ((k, v) :: vs) ((kD k, d) :: ds)
inductive RdT (F : Hp) : List (List Key × V) → List (D × D) → Prop
  | nil : RdT F [] []
  | cons {k : List Key} {v : V} {vs : List (List Key × V)} {d : D} {ds : List (D × D)} : Rd F v d → RdT F vs ds → RdT F ((k, v) :: vs) ((.tup (k.map kD), d) :: ds)
end
end
section
variable {K : PySem.W.Frag} {mg : Str → Option Value} {F F1 : Hp}
mutual
theorem Rd.up (e : Same F F1) : ∀ {v : V} {d : D}, Rd K mg F v d → Rd K mg F1 v d
  | _, _, .non => .non
  | _, _, .bl b => .bl b
  | _, _, .int i => .int i
  | _, _, .str s => .str s
  | _, _, .lst h r => .lst (e _ _ h) (RdL.up e r)
  | _, _, .scr h r => .scr (e.seq h) (RdL.up e r)
  | _, _, .ty n => .ty n
  | _, _, .tup h r => .tup (e _ _ h) (RdL.up e r)
  | _, _, .dK h r => .dK (e _ _ h) (RdK.up e r)
  | _, _, .dT h r => .dT (e _ _ h) (RdT.up e r)
  | _, _, .ins m h r => .ins m (e _ _ h) (RdF.up e r)
theorem RdL.up (e : Same F F1) : ∀ {v : List V} {d : List D}, RdL K mg F v d → RdL K mg F1 v d
  | _, _, .nil => .nil
  | _, _, .cons h r => .cons (Rd.up e h) (RdL.up e r)
theorem RdF.up (e : Same F F1) : ∀ {v : List (Str × V)} {d : List (Str × D)}, RdF K mg F v d → RdF K mg F1 v d
  | _, _, .nil => .nil
  | _, _, .cons h r => .cons (Rd.up e h) (RdF.up e r)
theorem RdK.up (e : Same F F1) : ∀ {v : List (Key × V)} {d : List (D × D)}, RdK K mg F v d → RdK K mg F1 v d
  | _, _, .nil => .nil
  | _, _, .cons h r => .cons (Rd.up e h) (RdK.up e r)
theorem RdT.up (e : Same F F1) : ∀ {v : List (List Key × V)} {d : List (D × D)}, RdT K mg F v d → RdT K mg F1 v d
  | _, _, .nil => .nil
  | _, _, .cons h r => .cons (Rd.up e h) (RdT.up e r)
end
theorem RdL.len : ∀ {vs : List V} {ds : List D}, RdL K mg F vs ds → vs.length = ds.length
  | _, _, .nil => rfl
  | _, _, .cons _ r => by simp [RdL.len r]
theorem RdL.get : ∀ {vs : List V} {ds : List D} {i : Nat} {d : D}, RdL K mg F vs ds → ds[i]? = some d → ∃ v, vs[i]? = some v ∧ Rd K mg F v d
  | _, _, _, _, .nil, e => by simp at e
  | _, _, 0, _, .cons h _, e => by simp at e; subst e; exact ⟨_, rfl, h⟩
  | _, _, i + 1, _, .cons _ r, e => by simpa using RdL.get (i := i) r (by simpa using e)
theorem RdL.app : ∀ {vs ws : List V} {ds es : List D}, RdL K mg F vs ds → RdL K mg F ws es → RdL K mg F (vs ++ ws) (ds ++ es)
  | _, _, _, _, .nil, q => q
  | _, _, _, _, .cons h r, q => .cons h (RdL.app r q)
theorem RdL.one {v : V} {d : D} (h : Rd K mg F v d) : RdL K mg F [v] [d] := .cons h .nil
theorem RdL.takeD : ∀ {vs : List V} {ds : List D} (n : Nat), RdL K mg F vs ds → RdL K mg F (vs.take n) (ds.take n)
  | _, _, 0, _ => .nil
  | _, _, _ + 1, .nil => .nil
  | _, _, n + 1, .cons h r => .cons h (RdL.takeD n r)
theorem RdL.dropD : ∀ {vs : List V} {ds : List D} (n : Nat), RdL K mg F vs ds → RdL K mg F (vs.drop n) (ds.drop n)
  | _, _, 0, r => r
  | _, _, _ + 1, .nil => .nil
  | _, _, n + 1, .cons _ r => RdL.dropD n r
theorem RdL.setD : ∀ {vs : List V} {ds : List D} (n : Nat) {v : V} {d : D}, RdL K mg F vs ds → Rd K mg F v d → RdL K mg F (vs.set n v) (ds.set n d)
  | _, _, _, _, _, .nil, _ => .nil
  | _, _, 0, _, _, .cons _ r, q => .cons q r
  | _, _, n + 1, _, _, .cons h r, q => .cons h (RdL.setD n r q)
theorem RdL.rev : ∀ {vs : List V} {ds : List D}, RdL K mg F vs ds → RdL K mg F vs.reverse ds.reverse
  | _, _, .nil => .nil
  | _, _, .cons h r => by rw [List.reverse_cons, List.reverse_cons]; exact (RdL.rev r).app (.one h)
theorem RdF.look : ∀ {vs : List (Str × V)} {ds : List (Str × D)} {n : Str} {d : D}, RdF K mg F vs ds → ds.lookup n = some d → ∃ v, vs.lookup n = some v ∧ Rd K mg F v d
  | _, _, _, _, .nil, e => by simp at e
  | _, _, n, _, .cons (n := m) h r, e => by
    rw [List.lookup] at e ⊢
    cases q : n == m with
    | true => rw [q] at e; simp at e; subst e; exact ⟨_, rfl, h⟩
    | false => rw [q] at e; exact RdF.look r e
/-! inversions -/
theorem Rd.inv_int {v : V} {i : Int} (h : Rd K mg F v (.int i)) : v = .int i := by cases h; rfl
theorem Rd.inv_str {v : V} {s : Str} (h : Rd K mg F v (.str s)) : v = .str s := by cases h; rfl
theorem Rd.inv_bl {v : V} {b : Bool} (h : Rd K mg F v (.bl b)) : v = .bl b := by cases h; rfl
theorem Rd.inv_non {v : V} (h : Rd K mg F v .non) : v = .non := by cases h; rfl
theorem Rd.inv_lst {v : V} {ds : List D} (h : Rd K mg F v (.lst ds)) : ∃ a vs, v = .ref a ∧ F a = some (.lst vs) ∧ RdL K mg F vs ds := by cases h with | lst h r => exact ⟨_, _, rfl, h, r⟩
theorem Rd.inv_tup {v : V} {ds : List D} (h : Rd K mg F v (.tup ds)) : ∃ a vs, v = .ref a ∧ F a = some (.tup vs) ∧ RdL K mg F vs ds := by cases h with | tup h r => exact ⟨_, _, rfl, h, r⟩
end
/-! ## the state that is read -/
structure Ctx (K : PySem.W.Frag) (mg : Str → Option Value) where
  F0 : Hp
  H0 : Hp
  io : Option Addr
  P : Hp
abbrev Ctx.K {K : PySem.W.Frag} {mg : Str → Option Value} (_ : Ctx K mg) : PySem.W.Frag := K
abbrev Ctx.mg {K : PySem.W.Frag} {mg : Str → Option Value} (_ : Ctx K mg) : Str → Option Value := mg
section
variable {K : PySem.W.Frag} {mg : Str → Option Value}
/-- not there at the entry, and not kept for others -/
def Fresh (c : Ctx K mg) (q : Addr) : Prop := c.H0 q = none ∧ c.P q = none
def own (ρ : Env) (i : Nat) : Prop := (∃ o ds, ρ[i]? = some (.ol o ds)) ∨ ∃ b kvs, ρ[i]? = some (.od b kvs)
def DcAt (K : PySem.W.Frag) (mg : Str → Option Value) (F H : Hp) (q : Addr) (b : Bool) (es : List (D × D)) : Prop :=
  (b = false ∧ ∃ kvs, H q = some (.dK kvs) ∧ RdK K mg F kvs es) ∨ (b = true ∧ ∃ kvs, H q = some (.dT kvs) ∧ RdT K mg F kvs es)
def RdS (c : Ctx K mg) (F : Hp) (σ : L2.St) (H : Hp) (i : Nat) : Slot → Prop
  | .un => True
  | .tr d => ∃ v, σ[i]? = some (some v) ∧ Rd c.K c.mg F v d
  | .ol o ds => ∃ q vs, σ[i]? = some (some (.ref q)) ∧ F q = none ∧ H q = some (.lst vs) ∧ RdL c.K c.mg F vs ds ∧ if o = true then c.io = some q ∧ c.P q = none else Fresh c q
  | .od b es => ∃ q, σ[i]? = some (some (.ref q)) ∧ F q = none ∧ Fresh c q ∧ DcAt c.K c.mg F H q b es
structure Rs (c : Ctx K mg) (F : Hp) (σ : L2.St) (H : Hp) (ρ : Env) : Prop where
  len : σ.length = ρ.length
  up : Same F H
  up0 : Same c.F0 F
  fr : ∀ q o, c.H0 q = some o → some q ≠ c.io → H q = some o
  nw : ∀ q, F q ≠ none → c.F0 q = none → c.H0 q = none
  ioH : ∀ q, c.io = some q → H q ≠ none
  io0 : ∀ q, c.io = some q → c.H0 q ≠ none
  pr : ∀ q o, c.P q = some o → H q = some o ∧ F q = none
  sl : ∀ i s, ρ[i]? = some s → RdS c F σ H i s
  dj : ∀ i j q, own ρ i → own ρ j → σ[i]? = some (some (.ref q)) → σ[j]? = some (some (.ref q)) → i = j
def RdW (c : Ctx K mg) (F : Hp) (σ : L2.St) (H : Hp) (ρ : Env) (x : V) : W → Prop
  | .t d => Rd c.K c.mg F x d
  | .o i => ∃ q, x = .ref q ∧ σ[i]? = some (some (.ref q))
  | .f ds => ∃ q vs, x = .ref q ∧ F q = none ∧ Fresh c q ∧ H q = some (.lst vs) ∧ RdL c.K c.mg F vs ds ∧ (some q ≠ c.io) ∧ ∀ i, own ρ i → σ[i]? ≠ some (some (.ref q))
  | .g b es => ∃ q, x = .ref q ∧ F q = none ∧ Fresh c q ∧ DcAt c.K c.mg F H q b es ∧ (some q ≠ c.io) ∧ ∀ i, own ρ i → σ[i]? ≠ some (some (.ref q))
end
/-- a step that only adds -/
structure Adv (F H F' H' : Hp) : Prop where
  ff : Same F F'
  hh : Same H H'
  fh : Same F' H'
  nw : ∀ q, F' q ≠ none → F q = none → H q = none
section
variable {K : PySem.W.Frag} {mg : Str → Option Value} {c : Ctx K mg} {F F' F'' H H' H'' : Hp} {σ : L2.St} {ρ : Env} {x : V} {q p : Addr} {o : HO}
theorem not_some {α : Type} {a : Option α} (h : ¬ a ≠ none) : a = none := Classical.byContradiction h
theorem Adv.refl (u : Same F H) : Adv F H F H := ⟨Same.refl F, Same.refl H, u, fun q h n => absurd n h⟩
theorem Adv.trans (a : Adv F H F' H') (b : Adv F' H' F'' H'') : Adv F H F'' H'' := by
  refine ⟨a.ff.trans b.ff, a.hh.trans b.hh, b.fh, fun q h n => ?_⟩
  by_cases z : F' q = none
  · exact a.hh.free (b.nw q h z)
  · exact a.nw q z n
theorem Adv.keepN (a : Adv F H F' H') (n : F q = none) (h : H q = some o) : F' q = none := by
  apply not_some
  intro z
  have := a.nw q z n
  rw [h] at this; cases this
theorem Adv.put (u : Same F H) (n : H p = none) : Adv F H (upd F p o) (upd H p o) := by
  refine ⟨s_new (Same.refl F) (u.free n), s_new (Same.refl H) n, fun b ob h => ?_, fun b h nb => ?_⟩
  · by_cases e : b = p
    · subst e; rw [upd_same] at h ⊢; exact h
    · rw [upd_ne e] at h ⊢; exact u _ _ h
  · by_cases e : b = p
    · subst e; exact n
    · rw [upd_ne e] at h; exact absurd nb h
theorem DcAt.adv {K : PySem.W.Frag} {mg : Str → Option Value} {b : Bool} {es : List (D × D)} (a : Adv F H F' H') (h : DcAt K mg F H q b es) : DcAt K mg F' H' q b es := by
  rcases h with ⟨e, kvs, h, r⟩ | ⟨e, kvs, h, r⟩
  · exact .inl ⟨e, kvs, a.hh _ _ h, r.up a.ff⟩
  · exact .inr ⟨e, kvs, a.hh _ _ h, r.up a.ff⟩
theorem DcAt.ex {K : PySem.W.Frag} {mg : Str → Option Value} {b : Bool} {es : List (D × D)} (h : DcAt K mg F H q b es) : ∃ o, H q = some o := by
  rcases h with ⟨e, kvs, h, r⟩ | ⟨e, kvs, h, r⟩
  · exact ⟨_, h⟩
  · exact ⟨_, h⟩
theorem Rs.none0 (R : Rs c F σ H ρ) (n : H q = none) : Fresh c q := by
  refine ⟨?_, by
    cases h : c.P q with
    | none => rfl
    | some o => rw [(R.pr q o h).1] at n; cases n⟩
  cases h : c.H0 q with
  | none => rfl
  | some o =>
    by_cases e : some q = c.io
    · exact absurd n (R.ioH q e.symm)
    · rw [R.fr q o h e] at n; cases n
theorem Rs.noio (R : Rs c F σ H ρ) (n : H q = none) : some q ≠ c.io := fun e => R.ioH q e.symm n
theorem Rs.adv (R : Rs c F σ H ρ) (a : Adv F H F' H') : Rs c F' σ H' ρ := by
  refine ⟨R.len, a.fh, R.up0.trans a.ff, fun q o h e => a.hh _ _ (R.fr q o h e), fun q h n => ?_, fun q e n => R.ioH q e (a.hh.free n), R.io0, fun q o h => ⟨a.hh _ _ (R.pr q o h).1, a.keepN (R.pr q o h).2 (R.pr q o h).1⟩, fun i s hs => ?_, R.dj⟩
  · by_cases z : F q = none
    · exact (R.none0 (a.nw q h z)).1
    · exact R.nw q z n
  · have r := R.sl i s hs
    cases s with
    | un => trivial
    | tr d => obtain ⟨v, e, r⟩ := r; exact ⟨v, e, r.up a.ff⟩
    | ol o ds => obtain ⟨q, vs, e, n, h, r, w⟩ := r; exact ⟨q, vs, e, a.keepN n h, a.hh _ _ h, r.up a.ff, w⟩
    | od b es => obtain ⟨q, e, n, h0, dc⟩ := r; obtain ⟨o, ho⟩ := dc.ex; exact ⟨q, e, a.keepN n ho, h0, dc.adv a⟩
theorem RdW.st_up {F1 H1 : Hp} {ρ1 : Env} {w : W} (s : Same F F1) (e : w.st = w) (h : RdW c F σ H ρ x w) : RdW c F1 σ H1 ρ1 x w := by
  cases w with
  | t d => exact Rd.up s h
  | o i => exact h
  | f ds => cases e
  | g b kvs => cases e
/-! frozen: an own list becomes one of F -/
theorem Rs.freeze (R : Rs c F σ H ρ) (n : F q = none) (h0 : Fresh c q) (h : H q = some o) (no : ∀ i, own ρ i → σ[i]? ≠ some (some (.ref q))) : Rs c (upd F q o) σ H ρ ∧ Same F (upd F q o) := by
  have s : Same F (upd F q o) := s_new (Same.refl F) n
  refine ⟨⟨R.len, fun b ob hb => ?_, R.up0.trans s, R.fr, fun b hb nb => ?_, R.ioH, R.io0, fun b ob hb => ⟨(R.pr b ob hb).1, by rw [upd_ne (fun z => by rw [z, h0.2] at hb; cases hb)]; exact (R.pr b ob hb).2⟩, fun i sl hs => ?_, R.dj⟩, s⟩
  · by_cases e : b = q
    · subst e; rw [upd_same] at hb; cases hb; exact h
    · rw [upd_ne e] at hb; exact R.up _ _ hb
  · by_cases e : b = q
    · subst e; exact h0.1
    · rw [upd_ne e] at hb; exact R.nw b hb nb
  · have r := R.sl i sl hs
    cases sl with
    | un => trivial
    | tr d => obtain ⟨v, e, r⟩ := r; exact ⟨v, e, r.up s⟩
    | ol o2 ds =>
      obtain ⟨q2, vs, e, n2, h2, r, w⟩ := r
      have ne : q2 ≠ q := fun z => no i (.inl ⟨_, _, hs⟩) (by rw [e, z])
      exact ⟨q2, vs, e, by rw [upd_ne ne]; exact n2, h2, r.up s, w⟩
    | od b es =>
      obtain ⟨q2, e, n2, h2, dc⟩ := r
      have ne : q2 ≠ q := fun z => no i (.inr ⟨_, _, hs⟩) (by rw [e, z])
      refine ⟨q2, e, by rw [upd_ne ne]; exact n2, h2, ?_⟩
      rcases dc with ⟨e, kvs, h, r⟩ | ⟨e, kvs, h, r⟩
      · exact .inl ⟨e, kvs, h, r.up s⟩
      · exact .inr ⟨e, kvs, h, r.up s⟩
/-- an expression's end, made a value or a name -/
theorem RdW.toSt {w : W} (R : Rs c F σ H ρ) (h : RdW c F σ H ρ x w) : ∃ F', Same F F' ∧ Rs c F' σ H ρ ∧ RdW c F' σ H ρ x w.st := by
  cases w with
  | t d => exact ⟨F, Same.refl F, R, h⟩
  | o i => exact ⟨F, Same.refl F, R, h⟩
  | f ds =>
    obtain ⟨q, vs, rfl, n, h0, hq, r, _, no⟩ := h
    obtain ⟨R', s⟩ := R.freeze n h0 hq no
    exact ⟨_, s, R', .lst upd_same (r.up s)⟩
  | g b es =>
    obtain ⟨q, rfl, n, h0, dc, _, no⟩ := h
    rcases dc with ⟨e, kvs, hq, r⟩ | ⟨e, kvs, hq, r⟩
    · obtain ⟨R', s⟩ := R.freeze n h0 hq no
      exact ⟨_, s, R', .dK upd_same (r.up s)⟩
    · obtain ⟨R', s⟩ := R.freeze n h0 hq no
      exact ⟨_, s, R', .dT upd_same (r.up s)⟩
theorem own_set {i j : Nat} {d : D} (h : own (ρ.set i (.tr d)) j) : own ρ j ∧ j ≠ i := by
  by_cases e : i = j
  · subst e
    rcases h with ⟨o, ds, h⟩ | ⟨b, es, h⟩ <;>
    · rw [List.getElem?_set] at h
      simp at h
  · refine ⟨?_, Ne.symm e⟩
    rcases h with ⟨o, ds, h⟩ | ⟨b, es, h⟩
    · rw [List.getElem?_set_ne e] at h; exact .inl ⟨_, _, h⟩
    · rw [List.getElem?_set_ne e] at h; exact .inr ⟨_, _, h⟩
/-- slot i's own content becomes a value -/
theorem Rs.freezeAt {i : Nat} {d : D} (R : Rs c F σ H ρ) (n : F q = none) (h0 : Fresh c q) (h : H q = some o) (e : σ[i]? = some (some (.ref q))) (oi : own ρ i) (r : Rd c.K c.mg (upd F q o) (.ref q) d) : Rs c (upd F q o) σ H (ρ.set i (.tr d)) := by
  have s : Same F (upd F q o) := s_new (Same.refl F) n
  refine ⟨by rw [List.length_set]; exact R.len, fun b ob hb => ?_, R.up0.trans s, R.fr, fun b hb nb => ?_, R.ioH, R.io0, fun b ob hb => ⟨(R.pr b ob hb).1, by rw [upd_ne (fun z => by rw [z, h0.2] at hb; cases hb)]; exact (R.pr b ob hb).2⟩, fun j sl hs => ?_, fun j k p oj ok => R.dj j k p (own_set oj).1 (own_set ok).1⟩
  · by_cases e : b = q
    · subst e; rw [upd_same] at hb; cases hb; exact h
    · rw [upd_ne e] at hb; exact R.up _ _ hb
  · by_cases e : b = q
    · subst e; exact h0.1
    · rw [upd_ne e] at hb; exact R.nw b hb nb
  · by_cases ji : i = j
    · subst ji
      have l : i < ρ.length := by
        have := (List.getElem?_eq_some_iff.mp hs).1
        rw [List.length_set] at this; exact this
      rw [List.getElem?_set_self l] at hs
      cases hs
      exact ⟨_, e, r⟩
    rw [List.getElem?_set_ne ji] at hs
    have r := R.sl j sl hs
    cases sl with
    | un => trivial
    | tr d => obtain ⟨v, e, r⟩ := r; exact ⟨v, e, r.up s⟩
    | ol o2 ds =>
      obtain ⟨q2, vs, e2, n2, h2, r, w⟩ := r
      have ne : q2 ≠ q := fun z => ji (R.dj i j q oi (.inl ⟨_, _, hs⟩) e (by rw [e2, z]))
      exact ⟨q2, vs, e2, by rw [upd_ne ne]; exact n2, h2, r.up s, w⟩
    | od b es =>
      obtain ⟨q2, e2, n2, h2, dc⟩ := r
      have ne : q2 ≠ q := fun z => ji (R.dj i j q oi (.inr ⟨_, _, hs⟩) e (by rw [e2, z]))
      refine ⟨q2, e2, by rw [upd_ne ne]; exact n2, h2, ?_⟩
      rcases dc with ⟨e, kvs, h, r⟩ | ⟨e, kvs, h, r⟩
      · exact .inl ⟨e, kvs, h, r.up s⟩
      · exact .inr ⟨e, kvs, h, r.up s⟩
theorem fz_ok {w : W} {d : D} {ρ' : Env} (R : Rs c F σ H ρ) (h : RdW c F σ H ρ x w) (e : fz w ρ = .ok d ρ') : ∃ F', Same F F' ∧ Rs c F' σ H ρ' ∧ Rd c.K c.mg F' x d := by
  cases w with
  | t d' => cases e; exact ⟨F, Same.refl F, R, h⟩
  | f ds => cases e; exact h.toSt R
  | g b es => cases e; exact h.toSt R
  | o i =>
    obtain ⟨q, rfl, es⟩ := h
    dsimp only [fz] at e
    cases hs : ρ[i]? with
    | none => rw [hs] at e; cases e
    | some sl =>
      rw [hs] at e
      have r := R.sl i sl hs
      cases sl with
      | un => cases e
      | tr d' =>
        cases e
        obtain ⟨v, e2, r⟩ := r
        rw [es] at e2; cases e2
        exact ⟨F, Same.refl F, R, r⟩
      | ol o2 ds =>
        cases o2 with
        | true => cases e
        | false =>
          cases e
          obtain ⟨q2, vs, e2, n2, h2, r, w⟩ := r
          rw [es] at e2; cases e2
          have s : Same F (upd F q (.lst vs)) := s_new (Same.refl F) n2
          have rr : Rd c.K c.mg (upd F q (.lst vs)) (.ref q) (.lst ds) := .lst upd_same (r.up s)
          exact ⟨_, s, R.freezeAt n2 w h2 es (.inl ⟨_, _, hs⟩) rr, rr⟩
      | od b kvs =>
        cases e
        obtain ⟨q2, e2, n2, h0, dc⟩ := r
        rw [es] at e2; cases e2
        rcases dc with ⟨_, kv, h2, r⟩ | ⟨_, kv, h2, r⟩
        · have s : Same F (upd F q (.dK kv)) := s_new (Same.refl F) n2
          have rr : Rd c.K c.mg (upd F q (.dK kv)) (.ref q) (.dct kvs) := .dK upd_same (r.up s)
          exact ⟨_, s, R.freezeAt n2 h0 h2 es (.inr ⟨_, _, hs⟩) rr, rr⟩
        · have s : Same F (upd F q (.dT kv)) := s_new (Same.refl F) n2
          have rr : Rd c.K c.mg (upd F q (.dT kv)) (.ref q) (.dct kvs) := .dT upd_same (r.up s)
          exact ⟨_, s, R.freezeAt n2 h0 h2 es (.inr ⟨_, _, hs⟩) rr, rr⟩
end
end Dx

namespace Dx
open PySem PySem.Spec PyProof.Rows L2 Hx
/-! ## wishes weakened -/
section
variable {X : Cx}
theorem peI {e : Expr} {t t' : TE} (h : PE X e t) (i : ∀ σ H Q, t' σ H Q → t σ H Q) : PE X e t' := ⟨fun pins s σ H Q I q => h.run pins s σ H Q I (i σ H Q q)⟩
theorem ptI {e : Expr} {t t' : TT} (h : PT X e t) (i : ∀ σ H Q, t' σ H Q → t σ H Q) : PT X e t' := ⟨fun pins s σ H Q I q => h.run pins s σ H Q I (i σ H Q q)⟩
theorem pwI {e : Expr} {t t' : TT} (h : PW X e t) (i : ∀ σ H Q, t' σ H Q → t σ H Q) : PW X e t' := ⟨fun w pins s σ H Q I q => h.run w pins s σ H Q I (i σ H Q q)⟩
theorem paI {e : List Expr} {t t' : TA} (h : PA X e t) (i : ∀ σ H Q, t' σ H Q → t σ H Q) : PA X e t' := ⟨fun pos pins s σ H Q I q => h.run pos pins s σ H Q I (i σ H Q q)⟩
theorem psI {e : Stmt} {t t' : TS} (h : PS X e t) (i : ∀ D σ H, t' D σ H → t D σ H) : PS X e t' := ⟨fun pins s σ H D I q => h.run pins s σ H D I (i D σ H q)⟩
theorem pssI {e : List Stmt} {t t' : TS} (h : PSs X e t) (i : ∀ D σ H, t' D σ H → t D σ H) : PSs X e t' := ⟨fun pins s σ H D I q => h.run pins s σ H D I (i D σ H q)⟩
theorem pgI {e : Expr} {t t' : TG} (h : PG X e t) (i : ∀ v σ H Q, t' v σ H Q → t v σ H Q) : PG X e t' := ⟨fun pins s σ H v u Q I r q => h.run pins s σ H v u Q I r (i v σ H Q q)⟩
theorem pgsI {e : List Expr} {t t' : TGs} (h : PGs X e t) (i : ∀ v σ H Q, t' v σ H Q → t v σ H Q) : PGs X e t' := ⟨fun pins s σ H v u Q I r q => h.run pins s σ H v u Q I r (i v σ H Q q)⟩
theorem piI {tg e : Expr} {t t' : TI} (h : PI X tg e t) (i : ∀ σ H R, t' σ H R → t σ H R) : PI X tg e t' := ⟨fun pins s σ H R I q => h.run pins s σ H R I (i σ H R q)⟩
theorem ptsI {e : List Expr} {t t' : TT} (h : PTs X e t) (i : ∀ σ H Q, t' σ H Q → t σ H Q) : PTs X e t' := ⟨fun pins s σ H Q I q => h.run pins s σ H Q I (i σ H Q q)⟩
theorem poI {e : Option Expr} {t t' : TO} (h : PO X e t) (i : ∀ σ H Q, t' σ H Q → t σ H Q) : PO X e t' := ⟨fun pins s σ H Q I q => h.run pins s σ H Q I (i σ H Q q)⟩
end
/-! ## the lifts -/
def ExP {K : PySem.W.Frag} {mg : Str → Option Value} (c : Ctx K mg) (wx : WX) (F : Hp) (_ : L2.St) (cn : Str) (fs : List (Str × D)) (ρ : Env) : Prop :=
  ∀ C dd fsV F' H' σ, c.mg cn = some (.ref C) → Same F F' → Rs c F' σ H' ρ → F' dd = some (.xd fsV) → RdF c.K c.mg F' fsV fs → wx (.ref C) (some dd) σ H'
def Pst {K : PySem.W.Frag} {mg : Str → Option Value} {α : Type} (c : Ctx K mg) (wx : WX) (F : Hp) (σ : L2.St) (z : Z α) (k : α → Env → Prop) : Prop :=
  match z with
  | .ok a ρ => k a ρ
  | .ex cn fs ρ => ExP c wx F σ cn fs ρ
  | .bad => False
section
variable {K : PySem.W.Frag} {mg : Str → Option Value} {c : Ctx K mg} {wx : WX} {F F1 : Hp} {σ : L2.St} {α β : Type}
theorem Pst.bnd {z : Z α} {k : α → Env → Z β} {q : β → Env → Prop} (h : Pst c wx F σ (z.bind k) q) : Pst c wx F σ z fun a ρ => Pst c wx F σ (k a ρ) q := by
  cases z <;> exact h
theorem Pst.up {z : Z α} {q q' : α → Env → Prop} (s : Same F F1) (h : Pst c wx F σ z q) (i : ∀ a ρ, q a ρ → q' a ρ) : Pst c wx F1 σ z q' := by
  cases z with
  | ok a ρ => exact i a ρ h
  | ex cn fs ρ => exact fun C dd fsV F' H' σ m s' R hd r => h C dd fsV F' H' σ m (s.trans s') R hd r
  | bad => exact h
theorem Pst.im {z : Z α} {q q' : α → Env → Prop} (h : Pst c wx F σ z q) (i : ∀ a ρ, q a ρ → q' a ρ) : Pst c wx F σ z q' := h.up (Same.refl F) i
end
def liftE {K : PySem.W.Frag} {mg : Str → Option Value} (c : Ctx K mg) (wx : WX) (m : EM) : TE := fun σ H Q => ∃ F ρ, Rs c F σ H ρ ∧ Pst c wx F σ (m ρ) fun w ρ' => ∀ x F' H', Same F F' → Rs c F' σ H' ρ' → RdW c F' σ H' ρ' x w → Q x H'
def liftT {K : PySem.W.Frag} {mg : Str → Option Value} (c : Ctx K mg) (wx : WX) (m : TM) : TT := fun σ H Q => ∃ F ρ, Rs c F σ H ρ ∧ Pst c wx F σ (m ρ) fun b ρ' => ∀ F' H', Same F F' → Rs c F' σ H' ρ' → Q b H'
inductive RdWs {K : PySem.W.Frag} {mg : Str → Option Value} (c : Ctx K mg) (F : Hp) (σ : L2.St) (H : Hp) (ρ : Env) : List V → List W → Prop
  | nil : RdWs c F σ H ρ [] []
  | cons {x : V} {w : W} {xs : List V} {ws : List W} (e : w.st = w) (h : RdW c F σ H ρ x w) (r : RdWs c F σ H ρ xs ws) : RdWs c F σ H ρ (x :: xs) (w :: ws)
theorem RdWs.up {K : PySem.W.Frag} {mg : Str → Option Value} {c : Ctx K mg} {F F1 H H1 : Hp} {σ : L2.St} {ρ ρ1 : Env} (s : Same F F1) : ∀ {xs : List V} {ws : List W}, RdWs c F σ H ρ xs ws → RdWs c F1 σ H1 ρ1 xs ws
  | _, _, .nil => .nil
  | _, _, .cons e h r => .cons e (h.st_up s e) (RdWs.up s r)
def liftA {K : PySem.W.Frag} {mg : Str → Option Value} (c : Ctx K mg) (wx : WX) (m : AM) : TA := fun σ H Q => ∃ F ρ, Rs c F σ H ρ ∧ Pst c wx F σ (m ρ) fun ws ρ' => ∀ xs F' H', Same F F' → Rs c F' σ H' ρ' → RdWs c F' σ H' ρ' xs ws → Q xs H'
def SgP {K : PySem.W.Frag} {mg : Str → Option Value} (c : Ctx K mg) (F : Hp) (ρ' : Env) (D : Ends) (sg : Sig) : Prop := match sg with
  | .nx => ∀ σ' F' H', Same F F' → Rs c F' σ' H' ρ' → D.nx σ' H'
  | .bk => ∀ σ' F' H', Same F F' → Rs c F' σ' H' ρ' → D.bk σ' H'
  | .ct => ∀ σ' F' H', Same F F' → Rs c F' σ' H' ρ' → D.ct σ' H'
  | .rt w => ∀ x σ' F' H', Same F F' → Rs c F' σ' H' ρ' → RdW c F' σ' H' ρ' x w → D.rt x H'
theorem SgP.up {K : PySem.W.Frag} {mg : Str → Option Value} {c : Ctx K mg} {F F1 : Hp} {ρ' : Env} {D : Ends} {sg : Sig} (s : Same F F1) (h : SgP c F ρ' D sg) : SgP c F1 ρ' D sg := by
  cases sg with
  | nx => exact fun σ' F' H' s' R => h σ' F' H' (s.trans s') R
  | bk => exact fun σ' F' H' s' R => h σ' F' H' (s.trans s') R
  | ct => exact fun σ' F' H' s' R => h σ' F' H' (s.trans s') R
  | rt w => exact fun x σ' F' H' s' R r => h x σ' F' H' (s.trans s') R r
def liftS {K : PySem.W.Frag} {mg : Str → Option Value} (c : Ctx K mg) (wx : WX) (m : SM) : TS := fun D σ H => ∃ F ρ, Rs c F σ H ρ ∧ Pst c wx F σ (m ρ) fun sg ρ' => SgP c F ρ' D sg
end Dx

namespace Dx
open PySem PySem.Spec PyProof.Rows L2 Hx
/-! ## a look at a value; what an operation gives -/
def toW : Option W → Env → Z W
  | some (.t d), ρ => .ok (.t d) ρ
  | some (.f ds), ρ => .ok (.f ds) ρ
  | some (.g b es), ρ => .ok (.g b es) ρ
  | some (.o _), _ => .bad
  | none, _ => .bad
def Pk (K : PySem.W.Frag) (mg : Str → Option Value) (F H : Hp) (x : V) (d : D) : Prop :=
  Rd K mg F x d ∨ (∃ q vs ds, x = .ref q ∧ d = .lst ds ∧ H q = some (.lst vs) ∧ RdL K mg F vs ds) ∨ ∃ q b es, x = .ref q ∧ d = .dct es ∧ DcAt K mg F H q b es
def Res (K : PySem.W.Frag) (mg : Str → Option Value) (F H : Hp) (w : Option W) (Q : VK) : Prop :=
  match w with
  | some (.t z) => ∀ v F' H', Adv F H F' H' → Rd K mg F' v z → Q v H'
  | some (.f zs) => ∀ q vs, H q = none → RdL K mg F vs zs → Q (.ref q) (upd H q (.lst vs))
  | some (.g false es) => ∀ q kvs, H q = none → RdK K mg F kvs es → Q (.ref q) (upd H q (.dK kvs))
  | some (.g true es) => ∀ q kvs, H q = none → RdT K mg F kvs es → Q (.ref q) (upd H q (.dT kvs))
  | _ => False
section
variable {K : PySem.W.Frag} {mg : Str → Option Value} {F H : Hp} {x : V}
theorem Pk.int {i : Int} (h : Pk K mg F H x (.int i)) : x = .int i := by
  rcases h with h | ⟨_, _, _, _, e, _⟩ | ⟨_, _, _, _, e, _⟩
  · exact h.inv_int
  · cases e
  · cases e
theorem Pk.str {s : Str} (h : Pk K mg F H x (.str s)) : x = .str s := by
  rcases h with h | ⟨_, _, _, _, e, _⟩ | ⟨_, _, _, _, e, _⟩
  · exact h.inv_str
  · cases e
  · cases e
theorem Pk.bl {b : Bool} (h : Pk K mg F H x (.bl b)) : x = .bl b := by
  rcases h with h | ⟨_, _, _, _, e, _⟩ | ⟨_, _, _, _, e, _⟩
  · exact h.inv_bl
  · cases e
  · cases e
theorem Pk.ty {n : String} (h : Pk K mg F H x (.ty n)) : x = .ty n := by
  rcases h with h | ⟨_, _, _, _, e, _⟩ | ⟨_, _, _, _, e, _⟩
  · cases h; rfl
  · cases e
  · cases e
theorem Pk.non (h : Pk K mg F H x .non) : x = .non := by
  rcases h with h | ⟨_, _, _, _, e, _⟩ | ⟨_, _, _, _, e, _⟩
  · exact h.inv_non
  · cases e
  · cases e
theorem Pk.lst {ds : List D} (u : Same F H) (h : Pk K mg F H x (.lst ds)) : ∃ q vs, x = .ref q ∧ H q = some (.lst vs) ∧ RdL K mg F vs ds := by
  rcases h with h | ⟨q, vs, ds, e1, e, h, r⟩ | ⟨_, _, _, _, e, _⟩
  · obtain ⟨a, vs, e, h, r⟩ := h.inv_lst; exact ⟨a, vs, e, u _ _ h, r⟩
  · cases e; exact ⟨q, vs, e1, h, r⟩
  · cases e
theorem Pk.tup {ds : List D} (u : Same F H) (h : Pk K mg F H x (.tup ds)) : ∃ q vs, x = .ref q ∧ H q = some (.tup vs) ∧ RdL K mg F vs ds := by
  rcases h with h | ⟨_, _, _, _, e, _⟩ | ⟨_, _, _, _, e, _⟩
  · obtain ⟨a, vs, e, h, r⟩ := h.inv_tup; exact ⟨a, vs, e, u _ _ h, r⟩
  · cases e
  · cases e
theorem Pk.dct {es : List (D × D)} (u : Same F H) (h : Pk K mg F H x (.dct es)) : ∃ q, x = .ref q ∧ ((∃ kvs, H q = some (.dK kvs) ∧ RdK K mg F kvs es) ∨ ∃ kvs, H q = some (.dT kvs) ∧ RdT K mg F kvs es) := by
  rcases h with h | ⟨_, _, _, _, e, _⟩ | ⟨q, b, es, e1, e, h⟩
  · cases h with
    | dK h r => exact ⟨_, rfl, .inl ⟨_, u _ _ h, r⟩⟩
    | dT h r => exact ⟨_, rfl, .inr ⟨_, u _ _ h, r⟩⟩
  · cases e
  · cases e
    rcases h with ⟨_, kvs, h, r⟩ | ⟨_, kvs, h, r⟩
    · exact ⟨q, e1, .inl ⟨kvs, h, r⟩⟩
    · exact ⟨q, e1, .inr ⟨kvs, h, r⟩⟩
theorem Pk.scr {ds : List D} (u : Same F H) (h : Pk K mg F H x (.scr ds)) : ∃ q vs, x = .ref q ∧ SqL K H q vs ∧ RdL K mg F vs ds := by
  rcases h with h | ⟨_, _, _, _, e, _⟩ | ⟨_, _, _, _, e, _⟩
  · cases h with | scr h r => exact ⟨_, _, rfl, u.seq h, r⟩
  · cases e
  · cases e
/-- a scalar given -/
theorem Res.sc {z : D} {v : V} {Q : VK} (u : Same F H) (h : Res K mg F H (some (.t z)) Q) (r : ∀ F, Rd K mg F v z) : Q v H := h v F H (Adv.refl u) (r F)
theorem Res.rd {z : D} {v : V} {Q : VK} (u : Same F H) (h : Res K mg F H (some (.t z)) Q) (r : Rd K mg F v z) : Q v H := h v F H (Adv.refl u) r
theorem Res.tupN {zs : List D} {vs : List V} {q : Addr} {Q : VK} (u : Same F H) (h : Res K mg F H (some (.t (.tup zs))) Q) (n : H q = none) (r : RdL K mg F vs zs) : Q (.ref q) (upd H q (.tup vs)) :=
  h _ _ _ (Adv.put u n) (.tup upd_same (r.up (s_new (Same.refl F) (u.free n))))
end
def OpD2 (K : PySem.W.Frag) (mg : Str → Option Value) (r : R2) (f : D → D → Option W) : Prop :=
  ∀ F H x y d e Q, Same F H → Pk K mg F H x d → Pk K mg F H y e → Res K mg F H (f d e) Q → r x y H Q
def OpD1 (K : PySem.W.Frag) (mg : Str → Option Value) (r : V → Hp → VK → Prop) (f : D → Option W) : Prop :=
  ∀ F H x d Q, Same F H → Pk K mg F H x d → Res K mg F H (f d) Q → r x H Q
inductive PkL (K : PySem.W.Frag) (mg : Str → Option Value) (F H : Hp) : List V → List D → Prop
  | nil : PkL K mg F H [] []
  | cons {x : V} {d : D} {xs : List V} {ds : List D} (h : Pk K mg F H x d) (r : PkL K mg F H xs ds) : PkL K mg F H (x :: xs) (d :: ds)
def CaD (K : PySem.W.Frag) (mg : Str → Option Value) (r : List V → Hp → VK → Prop) (f : List D → Option W) : Prop :=
  ∀ F H xs ds Q, Same F H → PkL K mg F H xs ds → Res K mg F H (f ds) Q → r xs H Q
def MtD (K : PySem.W.Frag) (mg : Str → Option Value) (r : V → List V → Hp → VK → Prop) (f : D → List D → Option W) : Prop :=
  ∀ F H x xs d ds Q, Same F H → Pk K mg F H x d → PkL K mg F H xs ds → Res K mg F H (f d ds) Q → r x xs H Q
section
variable {K : PySem.W.Frag} {mg : Str → Option Value} {c : Ctx K mg} {wx : WX} {F H : Hp} {σ : L2.St} {ρ : Env} {x : V}
theorem Rs.pk {w : W} {d : D} (R : Rs c F σ H ρ) (h : RdW c F σ H ρ x w) (st : w.st = w) (e : pk w ρ = some d) : Pk c.K c.mg F H x d := by
  cases w with
  | t d' => cases e; exact .inl h
  | f ds => cases st
  | g b es => cases st
  | o i =>
    obtain ⟨q, rfl, es⟩ := h
    dsimp only [Dx.pk] at e
    cases hs : ρ[i]? with
    | none => rw [hs] at e; cases e
    | some sl =>
      rw [hs] at e
      have r := R.sl i sl hs
      cases sl with
      | un => cases e
      | tr d' =>
        cases e
        obtain ⟨v, e2, r⟩ := r
        rw [es] at e2; cases e2
        exact .inl r
      | ol o ds =>
        cases e
        obtain ⟨q2, vs, e2, n, h, r, w⟩ := r
        rw [es] at e2; cases e2
        exact .inr (.inl ⟨q, vs, ds, rfl, rfl, h, r⟩)
      | od b kvs =>
        cases e
        obtain ⟨q2, e2, n, h0, dc⟩ := r
        rw [es] at e2; cases e2
        exact .inr (.inr ⟨q, b, kvs, rfl, rfl, dc⟩)
theorem Rs.ownAt {i : Nat} (R : Rs c F σ H ρ) (o : own ρ i) : ∃ q ob, σ[i]? = some (some (.ref q)) ∧ F q = none ∧ H q = some ob := by
  rcases o with ⟨o, ds, h⟩ | ⟨b, es, h⟩
  · obtain ⟨q, vs, e, n, h, _⟩ := R.sl i _ h; exact ⟨q, _, e, n, h⟩
  · obtain ⟨q, e, n, _, dc⟩ := R.sl i _ h; obtain ⟨ob, ho⟩ := dc.ex; exact ⟨q, ob, e, n, ho⟩
/-- a new object that nobody holds yet -/
theorem Rs.alloc {q : Addr} {o : HO} (R : Rs c F σ H ρ) (n : H q = none) : Rs c F σ (upd H q o) ρ := by
  have k : ∀ {b ob}, H b = some ob → upd H q o b = some ob := fun {b ob} h => u_old n h
  refine ⟨R.len, fun b ob h => k (R.up _ _ h), R.up0, fun b ob h e => k (R.fr b ob h e), R.nw, fun b e z => R.ioH b e (f_upd z), R.io0, fun b ob h => ⟨k (R.pr b ob h).1, (R.pr b ob h).2⟩, fun i s hs => ?_, R.dj⟩
  have r := R.sl i s hs
  cases s with
  | un => trivial
  | tr d => exact r
  | ol o ds => obtain ⟨q, vs, e, n, h, r, w⟩ := r; exact ⟨q, vs, e, n, k h, r, w⟩
  | od b es =>
    obtain ⟨q, e, n, h0, dc⟩ := r
    refine ⟨q, e, n, h0, ?_⟩
    rcases dc with ⟨e, kvs, h, r⟩ | ⟨e, kvs, h, r⟩
    · exact .inl ⟨e, kvs, k h, r⟩
    · exact .inr ⟨e, kvs, k h, r⟩
theorem Rs.notOwn {q : Addr} (R : Rs c F σ H ρ) (n : H q = none) : ∀ i, own ρ i → σ[i]? ≠ some (some (.ref q)) := fun i oi e => by
  obtain ⟨q2, ob, e2, _, h⟩ := R.ownAt oi
  rw [e2] at e; cases e; rw [h] at n; cases n
/-- from what is wanted behind an expression to an operation's wish -/
theorem Rs.res {ow : Option W} {Q : VK} (R : Rs c F σ H ρ) (p : Pst c wx F σ (toW ow ρ) fun w ρ' => ∀ x F' H', Same F F' → Rs c F' σ H' ρ' → RdW c F' σ H' ρ' x w → Q x H') : Res c.K c.mg F H ow Q := by
  cases ow with
  | none => exact p
  | some w =>
    cases w with
    | t z => exact fun v F' H' a r => p v F' H' a.ff (R.adv a) r
    | o i => exact p
    | f zs => exact fun q vs n r => p _ F _ (Same.refl F) (R.alloc n) ⟨q, vs, rfl, R.up.free n, R.none0 n, upd_same, r, R.noio n, R.notOwn n⟩
    | g b es =>
      cases b with
      | false => exact fun q kvs n r => p _ F _ (Same.refl F) (R.alloc n) ⟨q, rfl, R.up.free n, R.none0 n, .inl ⟨rfl, kvs, upd_same, r⟩, R.noio n, R.notOwn n⟩
      | true => exact fun q kvs n r => p _ F _ (Same.refl F) (R.alloc n) ⟨q, rfl, R.up.free n, R.none0 n, .inr ⟨rfl, kvs, upd_same, r⟩, R.noio n, R.notOwn n⟩
end
end Dx

namespace Dx
open PySem PySem.Spec PyProof.Rows L2 Hx
/-! ## expressions -/
namespace E
def varR : Option Slot → Nat → Env → Z W
  | some (.tr d), _, ρ => .ok (.t d) ρ
  | some (.ol _ _), i, ρ => .ok (.o i) ρ
  | some (.od _ _), i, ρ => .ok (.o i) ρ
  | some .un, _, _ => .bad
  | none, _, _ => .bad
@[simp] def var (i : Nat) (ρ : Env) : Z W := varR ρ[i]? i ρ
@[simp] def k (d : D) (ρ : Env) : Z W := .ok (.t d) ρ
def ap2 (f : D → D → Option W) : Option D → Option D → Env → Z W
  | some d1, some d2, ρ => toW (f d1 d2) ρ
  | none, _, _ => .bad
  | some _, none, _ => .bad
def ap1 (f : D → Option W) : Option D → Env → Z W
  | some d1, ρ => toW (f d1) ρ
  | none, _ => .bad
@[simp] def op2 (f : D → D → Option W) (a b : EM) (ρ : Env) : Z W := (a ρ).bind fun w1 ρ1 => (b ρ1).bind fun w2 ρ2 => ap2 f (pk w1.st ρ2) (pk w2.st ρ2) ρ2
@[simp] def op1 (f : D → Option W) (a : EM) (ρ : Env) : Z W := (a ρ).bind fun w1 ρ1 => ap1 f (pk w1.st ρ1) ρ1
/-- the truth of a value -/
def truD : D → Option Bool
  | .bl b => some b
  | .non => some false
  | .int i => some (i != 0)
  | .str s => if s.length ≤ 16777216 then some ((s.length : Int) != 0) else none
  | .lst ds => some (!ds.isEmpty)
  | .tup ds => some (!ds.isEmpty)
  | _ => none
def anD (b : EM) (d : D) : Option Bool → Env → Z W
  | some true, ρ => b ρ
  | some false, ρ => .ok (.t d) ρ
  | none, _ => .bad
def orD (b : EM) (d : D) : Option Bool → Env → Z W
  | some true, ρ => .ok (.t d) ρ
  | some false, ρ => b ρ
  | none, _ => .bad
/-- a truth behind a first one -/
def andR (b : EM) : W → Env → Z W
  | .t d, ρ => anD b d (truD d) ρ
  | _, _ => .bad
def orR (b : EM) : W → Env → Z W
  | .t d, ρ => orD b d (truD d) ρ
  | _, _ => .bad
def notR : W → Env → Z W
  | .t (.bl x), ρ => .ok (.t (.bl (!x))) ρ
  | _, _ => .bad
@[simp] def and (a b : EM) (ρ : Env) : Z W := (a ρ).bind fun w1 ρ1 => andR b w1 ρ1
@[simp] def or (a b : EM) (ρ : Env) : Z W := (a ρ).bind fun w1 ρ1 => orR b w1 ρ1
@[simp] def not (a : EM) (ρ : Env) : Z W := (a ρ).bind fun w1 ρ1 => notR w1 ρ1
@[simp] def ite (t : TM) (a b : EM) (ρ : Env) : Z W := (t ρ).bind fun x ρ1 => if x = true then a ρ1 else b ρ1
def chR (k : Env → Z W) : Option W → Env → Z W
  | some (.t (.bl true)), ρ => k ρ
  | some (.t (.bl false)), ρ => .ok (.t (.bl false)) ρ
  | _, _ => .bad
def chA (f : D → D → Option W) (k : Env → Z W) : Option D → Option D → Env → Z W
  | some d1, some d2, ρ => chR k (f d1 d2) ρ
  | none, _, _ => .bad
  | some _, none, _ => .bad
@[simp] def chain (f g : D → D → Option W) (a b e : EM) (ρ : Env) : Z W := (a ρ).bind fun w1 ρ1 => (b ρ1).bind fun w2 ρ2 =>
  chA f (fun ρ2 => (e ρ2).bind fun w3 ρ3 => ap2 g (pk w2.st ρ3) (pk w3.st ρ3) ρ3) (pk w1.st ρ2) (pk w2.st ρ2) ρ2
end E
namespace A
@[simp] def nil (ρ : Env) : Z (List W) := .ok [] ρ
@[simp] def cons (a : EM) (b : AM) (ρ : Env) : Z (List W) := (a ρ).bind fun w ρ1 => (b ρ1).bind fun ws ρ2 => .ok (w.st :: ws) ρ2
end A
def consO : Option D → Option (List D) → Option (List D)
  | some d, some ds => some (d :: ds)
  | none, _ => none
  | some _, none => none
@[simp] def pks : List W → Env → Option (List D)
  | [], _ => some []
  | w :: ws, ρ => consO (pk w ρ) (pks ws ρ)
namespace E
@[simp] def tup (a : AM) (ρ : Env) : Z W := (a ρ).bind fun ws ρ1 => if ws.length ≤ 1000 then (fzs ws ρ1).bind fun ds ρ2 => .ok (.t (.tup ds)) ρ2 else .bad
@[simp] def lst (a : AM) (ρ : Env) : Z W := (a ρ).bind fun ws ρ1 => if ws.length ≤ 1000 then (fzs ws ρ1).bind fun ds ρ2 => .ok (.f ds) ρ2 else .bad
def apL (f : List D → Option W) : Option (List D) → Env → Z W
  | some ds, ρ => toW (f ds) ρ
  | none, _ => .bad
/-- a built-in called: a look at its arguments -/
@[simp] def cb (f : List D → Option W) (a : AM) (ρ : Env) : Z W := (a ρ).bind fun ws ρ1 => apL f (pks ws ρ1) ρ1
/-- a def called -/
def frW : Fr → Env → Z W
  | .ok (.t d) _, ρ => .ok (.t d) ρ
  | .ok (.f ds) _, ρ => .ok (.f ds) ρ
  | .ok (.g b es) _, ρ => .ok (.g b es) ρ
  | .ok (.o _) _, _ => .bad
  | .ex c fs _, ρ => .ex c fs ρ
  | .bad, _ => .bad
@[simp] def call (n : Nat) (m : List D → Fr) (a : AM) (ρ : Env) : Z W := (a ρ).bind fun ws ρ1 => (fzs ws ρ1).bind fun ds ρ2 => if ds.length = n then frW (m ds) ρ2 else .bad
/-- a def called with the io list in slot i as its first argument -/
def frI (i : Nat) (o : Bool) : Fr → Env → Z W
  | .ok w zs', ρ => frW (.ok w []) (ρ.set i (.ol o zs'))
  | .ex c fs zs', ρ => .ex c fs (ρ.set i (.ol o zs'))
  | .bad, _ => .bad
def caI (m : List D → List D → Fr) (ds : List D) (i : Nat) : Option Slot → Env → Z W
  | some (.ol o zs), ρ => frI i o (m zs ds) ρ
  | _, _ => .bad
def isOl : Option Slot → Bool
  | some (.ol _ _) => true
  | _ => false
@[simp] def callI (n : Nat) (m : List D → List D → Fr) (i : Nat) (a : AM) (ρ : Env) : Z W := if isOl ρ[i]? = true then (a ρ).bind fun ws ρ1 => (fzs ws ρ1).bind fun ds ρ2 => if ds.length = n then caI m ds i ρ2[i]? ρ2 else .bad
  else .bad
end E
namespace T
def valR : W → Env → Z Bool
  | .t (.bl b), ρ => .ok b ρ
  | _, _ => .bad
@[simp] def val (a : EM) (ρ : Env) : Z Bool := (a ρ).bind fun w ρ1 => valR w ρ1
@[simp] def and (a b : TM) (ρ : Env) : Z Bool := (a ρ).bind fun x ρ1 => if x = true then b ρ1 else .ok false ρ1
@[simp] def or (a b : TM) (ρ : Env) : Z Bool := (a ρ).bind fun x ρ1 => if x = true then .ok true ρ1 else b ρ1
@[simp] def not (a : TM) (ρ : Env) : Z Bool := (a ρ).bind fun x ρ1 => .ok (!x) ρ1
@[simp] def yes (ρ : Env) : Z Bool := .ok true ρ
end T
/-! ## their lifts -/
section
variable {X : Cx} {K : PySem.W.Frag} {mg : Str → Option Value} {c : Ctx K mg} {wx : WX} {a b e : Expr} {ma mb me : EM} {pos : Pos}
theorem pd_of {m : EM} {t : TE} (h : PE X e t) (i : ∀ σ H Q, liftE c wx m σ H Q → t σ H Q) : PE X e (liftE c wx m) := peI h i
theorem lift_var (i : Nat) (σ : L2.St) (H : Hp) (Q : VK) (h : liftE c wx (E.var i) σ H Q) : tVar i σ H Q := by
  obtain ⟨F, ρ, R, p⟩ := h
  dsimp only [E.var] at p
  cases hs : ρ[i]? with
  | none => rw [hs] at p; exact p.elim
  | some sl =>
    rw [hs] at p
    have r := R.sl i sl hs
    cases sl with
    | un => exact p.elim
    | tr d => obtain ⟨v, e, r⟩ := r; exact ⟨v, e, p v F H (Same.refl F) R r⟩
    | ol o ds => obtain ⟨q, vs, e, _⟩ := r; exact ⟨_, e, p _ F H (Same.refl F) R ⟨q, rfl, e⟩⟩
    | od b es => obtain ⟨q, e, _⟩ := r; exact ⟨_, e, p _ F H (Same.refl F) R ⟨q, rfl, e⟩⟩
theorem pd_var {i : Nat} (h : PE X e (tVar i)) : PE X e (liftE c wx (E.var i)) := pd_of h (lift_var i)
theorem pd_c {v : V} {d : D} (h : PE X e (tC v)) (r : ∀ F, Rd c.K c.mg F v d) : PE X e (liftE c wx (E.k d)) := pd_of h fun σ H Q ⟨F, ρ, R, p⟩ => p v F H (Same.refl F) R (r F)
theorem pd_cI {i : Int} (h : PE X e (tC (.int i))) : PE X e (liftE c wx (E.k (.int i))) := pd_c h fun _ => .int i
theorem pd_cS {s : Str} (h : PE X e (tC (.str s))) : PE X e (liftE c wx (E.k (.str s))) := pd_c h fun _ => .str s
theorem pd_cB {b : Bool} (h : PE X e (tC (.bl b))) : PE X e (liftE c wx (E.k (.bl b))) := pd_c h fun _ => .bl b
theorem pd_cN (h : PE X e (tC .non)) : PE X e (liftE c wx (E.k .non)) := pd_c h fun _ => .non
theorem lift_op2 {r : R2} {f : D → D → Option W} (hf : OpD2 c.K c.mg r f) (σ : L2.St) (H : Hp) (Q : VK) (h : liftE c wx (E.op2 f ma mb) σ H Q) : tOp r (liftE c wx ma) (liftE c wx mb) σ H Q := by
  obtain ⟨F, ρ, R, p⟩ := h
  refine ⟨F, ρ, R, p.bnd.im fun w1 ρ1 p x F1 H1 s1 R1 r1 => ?_⟩
  obtain ⟨F1', s1', R1', r1'⟩ := r1.toSt R1
  refine ⟨F1', ρ1, R1', p.bnd.up (s1.trans s1') fun w2 ρ2 p y F2 H2 s2 R2 r2 => ?_⟩
  obtain ⟨F2', s2', R2', r2'⟩ := r2.toSt R2
  have r1'' : RdW c F2' σ H2 ρ2 x w1.st := r1'.st_up (s2.trans s2') (by cases w1 <;> rfl)
  cases e1 : pk w1.st ρ2 with
  | none => rw [e1] at p; exact p.elim
  | some d1 =>
    cases e2 : pk w2.st ρ2 with
    | none => rw [e1, e2] at p; exact p.elim
    | some d2 =>
      rw [e1, e2] at p
      exact hf F2' H2 x y d1 d2 Q R2'.up (R2'.pk r1'' (by cases w1 <;> rfl) e1) (R2'.pk r2' (by cases w2 <;> rfl) e2)
        (R2'.res (Pst.up (((s1.trans s1').trans s2).trans s2') p fun w ρ' k x F' H' s => k x F' H' ((((s1.trans s1').trans s2).trans s2').trans s)))
theorem pd_op2 {r : R2} {f : D → D → Option W} (hf : OpD2 c.K c.mg r f) (h : PE X e (tOp r (liftE c wx ma) (liftE c wx mb))) : PE X e (liftE c wx (E.op2 f ma mb)) := pd_of h (lift_op2 hf)
theorem lift_op1 {r : V → Hp → VK → Prop} {f : D → Option W} (hf : OpD1 c.K c.mg r f) (σ : L2.St) (H : Hp) (Q : VK) (h : liftE c wx (E.op1 f ma) σ H Q) : tUn r (liftE c wx ma) σ H Q := by
  obtain ⟨F, ρ, R, p⟩ := h
  refine ⟨F, ρ, R, p.bnd.im fun w1 ρ1 p x F1 H1 s1 R1 r1 => ?_⟩
  obtain ⟨F1', s1', R1', r1'⟩ := r1.toSt R1
  cases e1 : pk w1.st ρ1 with
  | none => rw [e1] at p; exact p.elim
  | some d1 =>
    rw [e1] at p
    exact hf F1' H1 x d1 Q R1'.up (R1'.pk r1' (by cases w1 <;> rfl) e1) (R1'.res (p.up (s1.trans s1') fun w ρ' k x F' H' s => k x F' H' ((s1.trans s1').trans s)))
theorem pd_op1 {r : V → Hp → VK → Prop} {f : D → Option W} (hf : OpD1 c.K c.mg r f) (h : PE X e (tUn r (liftE c wx ma))) : PE X e (liftE c wx (E.op1 f ma)) := pd_of h (lift_op1 hf)
theorem Rd.bl_w {F H : Hp} {σ : L2.St} {ρ : Env} {x : V} {b : Bool} (h : RdW c F σ H ρ x (.t (.bl b))) : x = .bl b := Rd.inv_bl h
theorem tru_rd {F H : Hp} {x : V} {d : D} {k : Bool} (u : Same F H) (r : Rd c.K c.mg F x d) (h : E.truD d = some k) : TruV K x H k := by
  cases r with
  | non => cases h; rfl
  | bl b => cases h; rfl
  | int i => cases h; rfl
  | str s =>
    rw [E.truD] at h
    split at h
    · rename_i l; cases h; exact ⟨by rw [sizeLine_eq]; exact l, rfl⟩
    · cases h
  | lst h1 r1 => cases h; exact .inl ⟨_, sq_of (u _ _ h1), by cases r1 <;> rfl⟩
  | tup h1 r1 => cases h; exact .inr (.inl ⟨_, st_of (u _ _ h1), by cases r1 <;> rfl⟩)
  | _ => cases h
theorem lift_and (σ : L2.St) (H : Hp) (Q : VK) (h : liftE c wx (E.and ma mb) σ H Q) : tAndT K (liftE c wx ma) (liftE c wx mb) σ H Q := by
  obtain ⟨F, ρ, R, p⟩ := h
  refine ⟨F, ρ, R, p.bnd.im fun w1 ρ1 p x F1 H1 s1 R1 r1 => ?_⟩
  cases w1 with
  | t d =>
    have r1 : Rd c.K c.mg F1 x d := r1
    have p : Pst c wx F σ (E.anD mb d (E.truD d) ρ1) _ := p
    cases e : E.truD d with
    | none => rw [e] at p; exact p.elim
    | some b =>
      rw [e] at p
      refine ⟨b, tru_rd R1.up r1 e, ?_⟩
      cases b with
      | true => exact iteT ⟨F1, ρ1, R1, Pst.up s1 p fun w ρ' k x F' H' s => k x F' H' (s1.trans s)⟩
      | false => exact iteF (p _ F1 H1 s1 R1 r1)
  | _ => exact p.elim
theorem pd_and (h : PE X e (tAndT K (liftE c wx ma) (liftE c wx mb))) : PE X e (liftE c wx (E.and ma mb)) := pd_of h lift_and
theorem lift_or (σ : L2.St) (H : Hp) (Q : VK) (h : liftE c wx (E.or ma mb) σ H Q) : tOrT K (liftE c wx ma) (liftE c wx mb) σ H Q := by
  obtain ⟨F, ρ, R, p⟩ := h
  refine ⟨F, ρ, R, p.bnd.im fun w1 ρ1 p x F1 H1 s1 R1 r1 => ?_⟩
  cases w1 with
  | t d =>
    have r1 : Rd c.K c.mg F1 x d := r1
    have p : Pst c wx F σ (E.orD mb d (E.truD d) ρ1) _ := p
    cases e : E.truD d with
    | none => rw [e] at p; exact p.elim
    | some b =>
      rw [e] at p
      refine ⟨b, tru_rd R1.up r1 e, ?_⟩
      cases b with
      | true => exact iteT (p _ F1 H1 s1 R1 r1)
      | false => exact iteF ⟨F1, ρ1, R1, Pst.up s1 p fun w ρ' k x F' H' s => k x F' H' (s1.trans s)⟩
  | _ => exact p.elim
theorem pd_or (h : PE X e (tOrT K (liftE c wx ma) (liftE c wx mb))) : PE X e (liftE c wx (E.or ma mb)) := pd_of h lift_or
theorem pe_andTK {a b : Expr} {rest : List Expr} {pos : Pos} {ta tb : TE} (hK : X.K = K) (ha : PE X a ta) (hb : PE X (.BoolOp .And (b :: rest) pos) tb) : PE X (.BoolOp .And (a :: b :: rest) pos) (tAndT K ta tb) := by subst hK; exact pe_andT ha hb
theorem pe_orTK {a b : Expr} {rest : List Expr} {pos : Pos} {ta tb : TE} (hK : X.K = K) (ha : PE X a ta) (hb : PE X (.BoolOp .Or (b :: rest) pos) tb) : PE X (.BoolOp .Or (a :: b :: rest) pos) (tOrT K ta tb) := by subst hK; exact pe_orT ha hb
theorem lift_not (σ : L2.St) (H : Hp) (Q : VK) (h : liftE c wx (E.not ma) σ H Q) : tNotV (liftE c wx ma) σ H Q := by
  obtain ⟨F, ρ, R, p⟩ := h
  refine ⟨F, ρ, R, p.bnd.im fun w1 ρ1 p x F1 H1 s1 R1 r1 => ?_⟩
  cases w1 with
  | t d =>
    cases d with
    | bl b => exact ⟨b, Rd.bl_w r1, p _ F1 H1 s1 R1 (.bl _)⟩
    | _ => exact p.elim
  | _ => exact p.elim
theorem pd_not (h : PE X e (tNotV (liftE c wx ma))) : PE X e (liftE c wx (E.not ma)) := pd_of h lift_not
theorem lift_ite {t : TM} (σ : L2.St) (H : Hp) (Q : VK) (h : liftE c wx (E.ite t ma mb) σ H Q) : tIf (liftT c wx t) (liftE c wx ma) (liftE c wx mb) σ H Q := by
  obtain ⟨F, ρ, R, p⟩ := h
  refine ⟨F, ρ, R, p.bnd.im fun b ρ1 p F1 H1 s1 R1 => ?_⟩
  cases b with
  | true => exact ⟨F1, ρ1, R1, p.up s1 fun w ρ' k x F' H' s => k x F' H' (s1.trans s)⟩
  | false => exact ⟨F1, ρ1, R1, p.up s1 fun w ρ' k x F' H' s => k x F' H' (s1.trans s)⟩
theorem pd_ite {t : TM} (h : PE X e (tIf (liftT c wx t) (liftE c wx ma) (liftE c wx mb))) : PE X e (liftE c wx (E.ite t ma mb)) := pd_of h lift_ite
theorem lift_chain {r g : R2} {f f2 : D → D → Option W} (hf : OpD2 c.K c.mg r f) (hg : OpD2 c.K c.mg g f2) (σ : L2.St) (H : Hp) (Q : VK) (h : liftE c wx (E.chain f f2 ma mb me) σ H Q) : tChain r g (liftE c wx ma) (liftE c wx mb) (liftE c wx me) σ H Q := by
  obtain ⟨F, ρ, R, p⟩ := h
  refine ⟨F, ρ, R, p.bnd.im fun w1 ρ1 p x F1 H1 s1 R1 r1 => ?_⟩
  obtain ⟨F1', s1', R1', r1'⟩ := r1.toSt R1
  refine ⟨F1', ρ1, R1', p.bnd.up (s1.trans s1') fun w2 ρ2 p y F2 H2 s2 R2 r2 => ?_⟩
  obtain ⟨F2', s2', R2', r2'⟩ := r2.toSt R2
  have r1'' : RdW c F2' σ H2 ρ2 x w1.st := r1'.st_up (s2.trans s2') (by cases w1 <;> rfl)
  have sA := ((s1.trans s1').trans s2).trans s2'
  cases e1 : pk w1.st ρ2 with
  | none => rw [e1] at p; exact p.elim
  | some d1 =>
    cases e2 : pk w2.st ρ2 with
    | none => rw [e1, e2] at p; exact p.elim
    | some d2 =>
      rw [e1, e2] at p
      refine hf F2' H2 x y d1 d2 _ R2'.up (R2'.pk r1'' (by cases w1 <;> rfl) e1) (R2'.pk r2' (by cases w2 <;> rfl) e2) ?_
      dsimp only [E.chA] at p
      cases ef : f d1 d2 with
      | none => rw [ef] at p; exact p.elim
      | some w =>
        rw [ef] at p
        cases w with
        | t d =>
          cases d with
          | bl b =>
            intro v F' H' a r
            refine ⟨b, r.inv_bl, ?_⟩
            have R3 := R2'.adv a
            cases b with
            | true =>
              refine iteT ⟨F', ρ2, R3, Pst.up (sA.trans a.ff) (Pst.bnd p) fun w3 ρ3 p z F4 H4 s4 R4 r4 => ?_⟩
              obtain ⟨F4', s4', R4', r4'⟩ := r4.toSt R4
              have r2'' : RdW c F4' σ H4 ρ3 y w2.st := r2'.st_up ((a.ff.trans s4).trans s4') (by cases w2 <;> rfl)
              have sB := ((sA.trans a.ff).trans s4).trans s4'
              cases e3 : pk w2.st ρ3 with
              | none => rw [e3] at p; exact p.elim
              | some d2' =>
                cases e4 : pk w3.st ρ3 with
                | none => rw [e3, e4] at p; exact p.elim
                | some d3 =>
                  rw [e3, e4] at p
                  exact hg F4' H4 y z d2' d3 Q R4'.up (R4'.pk r2'' (by cases w2 <;> rfl) e3) (R4'.pk r4' (by cases w3 <;> rfl) e4) (R4'.res (Pst.up sB p fun w ρ' k x F' H' s => k x F' H' (sB.trans s)))
            | false => exact iteF (p _ F' H' (sA.trans a.ff) R3 (.bl false))
          | _ => exact p.elim
        | _ => exact p.elim
theorem pd_chain {r g : R2} {f f2 : D → D → Option W} (hf : OpD2 c.K c.mg r f) (hg : OpD2 c.K c.mg g f2) (h : PE X e (tChain r g (liftE c wx ma) (liftE c wx mb) (liftE c wx me))) : PE X e (liftE c wx (E.chain f f2 ma mb me)) := pd_of h (lift_chain hf hg)
/-! tests -/
theorem lift_val (σ : L2.St) (H : Hp) (Q : Bool → Hp → Prop) (h : liftT c wx (T.val ma) σ H Q) : tB (liftE c wx ma) σ H Q := by
  obtain ⟨F, ρ, R, p⟩ := h
  refine ⟨F, ρ, R, p.bnd.im fun w1 ρ1 p x F1 H1 s1 R1 r1 => ?_⟩
  cases w1 with
  | t d =>
    cases d with
    | bl b => exact ⟨b, Rd.bl_w r1, p F1 H1 s1 R1⟩
    | _ => exact p.elim
  | _ => exact p.elim
theorem pd_tval (h : PT X e (tB (liftE c wx ma))) : PT X e (liftT c wx (T.val ma)) := ptI h lift_val
theorem lift_cmp {r : R2} {f : D → D → Option W} (hf : OpD2 c.K c.mg r f) (σ : L2.St) (H : Hp) (Q : Bool → Hp → Prop) (h : liftT c wx (T.val (E.op2 f ma mb)) σ H Q) : tTest (tOp r (liftE c wx ma) (liftE c wx mb)) σ H Q := by
  have h1 := lift_val σ H Q h
  exact lift_op2 hf σ H _ h1
theorem pd_tcmp {r : R2} {f : D → D → Option W} (hf : OpD2 c.K c.mg r f) (h : PT X e (tTest (tOp r (liftE c wx ma) (liftE c wx mb)))) : PT X e (liftT c wx (T.val (E.op2 f ma mb))) := ptI h (lift_cmp hf)
theorem lift_tchain {r g : R2} {f f2 : D → D → Option W} (hf : OpD2 c.K c.mg r f) (hg : OpD2 c.K c.mg g f2) (σ : L2.St) (H : Hp) (Q : Bool → Hp → Prop) (h : liftT c wx (T.val (E.chain f f2 ma mb me)) σ H Q) : tTest (tChain r g (liftE c wx ma) (liftE c wx mb) (liftE c wx me)) σ H Q :=
  lift_chain hf hg σ H _ (lift_val σ H Q h)
theorem pd_tchain {r g : R2} {f f2 : D → D → Option W} (hf : OpD2 c.K c.mg r f) (hg : OpD2 c.K c.mg g f2) (h : PT X e (tTest (tChain r g (liftE c wx ma) (liftE c wx mb) (liftE c wx me)))) : PT X e (liftT c wx (T.val (E.chain f f2 ma mb me))) := ptI h (lift_tchain hf hg)
variable {ta tb : TM}
theorem lift_tand (σ : L2.St) (H : Hp) (Q : Bool → Hp → Prop) (h : liftT c wx (T.and ta tb) σ H Q) : tAnd (liftT c wx ta) (liftT c wx tb) σ H Q := by
  obtain ⟨F, ρ, R, p⟩ := h
  refine ⟨F, ρ, R, p.bnd.im fun b ρ1 p F1 H1 s1 R1 => ?_⟩
  cases b with
  | true => exact ⟨F1, ρ1, R1, Pst.up s1 p fun b ρ' k F' H' s => k F' H' (s1.trans s)⟩
  | false => exact p F1 H1 s1 R1
theorem pd_tand (h : PW X e (tAnd (liftT c wx ta) (liftT c wx tb))) : PW X e (liftT c wx (T.and ta tb)) := pwI h lift_tand
theorem lift_tor (σ : L2.St) (H : Hp) (Q : Bool → Hp → Prop) (h : liftT c wx (T.or ta tb) σ H Q) : tOr (liftT c wx ta) (liftT c wx tb) σ H Q := by
  obtain ⟨F, ρ, R, p⟩ := h
  refine ⟨F, ρ, R, p.bnd.im fun b ρ1 p F1 H1 s1 R1 => ?_⟩
  cases b with
  | true => exact p F1 H1 s1 R1
  | false => exact ⟨F1, ρ1, R1, Pst.up s1 p fun b ρ' k F' H' s => k F' H' (s1.trans s)⟩
theorem pd_tor (h : PW X e (tOr (liftT c wx ta) (liftT c wx tb))) : PW X e (liftT c wx (T.or ta tb)) := pwI h lift_tor
theorem lift_tnot (σ : L2.St) (H : Hp) (Q : Bool → Hp → Prop) (h : liftT c wx (T.not ta) σ H Q) : tNot (liftT c wx ta) σ H Q := by
  obtain ⟨F, ρ, R, p⟩ := h
  exact ⟨F, ρ, R, p.bnd.im fun b ρ1 p F1 H1 s1 R1 => p F1 H1 s1 R1⟩
theorem pd_tnot (h : PT X e (tNot (liftT c wx ta))) : PT X e (liftT c wx (T.not ta)) := ptI h lift_tnot
end
end Dx

namespace Dx
open PySem PySem.Spec PyProof.Rows L2 Hx
/-! ## arguments, displays, calls -/
section
variable {X : Cx} {K : PySem.W.Frag} {mg : Str → Option Value} {c : Ctx K mg} {wx : WX} {e : Expr} {es : List Expr} {ma mb me : EM} {mas : AM}
theorem pd_anil (h : PA X es tNil) : PA X es (liftA c wx A.nil) := paI h fun σ H Q ⟨F, ρ, R, p⟩ => p [] F H (Same.refl F) R .nil
theorem lift_cons (σ : L2.St) (H : Hp) (Q : List V → Hp → Prop) (h : liftA c wx (A.cons ma mas) σ H Q) : tCons (liftE c wx ma) (liftA c wx mas) σ H Q := by
  obtain ⟨F, ρ, R, p⟩ := h
  refine ⟨F, ρ, R, p.bnd.im fun w1 ρ1 p x F1 H1 s1 R1 r1 => ?_⟩
  obtain ⟨F1', s1', R1', r1'⟩ := r1.toSt R1
  refine ⟨F1', ρ1, R1', p.bnd.up (s1.trans s1') fun ws ρ2 p xs F2 H2 s2 R2 r2 => ?_⟩
  exact p _ F2 H2 ((s1.trans s1').trans s2) R2 (.cons (by cases w1 <;> rfl) (r1'.st_up s2 (by cases w1 <;> rfl)) r2)
theorem pd_acons (h : PA X es (tCons (liftE c wx ma) (liftA c wx mas))) : PA X es (liftA c wx (A.cons ma mas)) := paI h lift_cons
theorem fzs_ok {H : Hp} {σ : L2.St} : ∀ {xs : List V} {ws : List W} {ρ ρ0 : Env} {ds : List D} {ρ' : Env} {F : Hp}, Rs c F σ H ρ → RdWs c F σ H ρ0 xs ws → fzs ws ρ = .ok ds ρ' → ∃ F', Same F F' ∧ Rs c F' σ H ρ' ∧ RdL c.K c.mg F' xs ds
  | _, _, ρ, _, ds, ρ', F, R, .nil, e => by cases e; exact ⟨F, Same.refl F, R, .nil⟩
  | _, _, ρ, ρ0, ds, ρ', F, R, .cons (w := w) (ws := ws) st h r, e => by
    dsimp only [fzs, Z.bind] at e
    cases e1 : fz w ρ with
    | ex _ _ _ => rw [e1] at e; cases e
    | bad => rw [e1] at e; cases e
    | ok d ρ1 =>
      rw [e1] at e
      dsimp only at e
      cases e2 : fzs ws ρ1 with
      | ex _ _ _ => rw [e2] at e; cases e
      | bad => rw [e2] at e; cases e
      | ok ds2 ρ2 =>
        rw [e2] at e
        cases e
        obtain ⟨F1, s1, R1, r1⟩ := fz_ok R (h.st_up (ρ1 := ρ) (Same.refl F) st) e1
        obtain ⟨F2, s2, R2, r2⟩ := fzs_ok R1 (r.up s1 (ρ1 := ρ1) (H1 := H)) e2
        exact ⟨F2, s1.trans s2, R2, .cons (r1.up s2) r2⟩
theorem fz_ne {w : W} {ρ : Env} {cn : Str} {fs : List (Str × D)} {ρ' : Env} : fz w ρ ≠ .ex cn fs ρ' := by
  cases w with
  | o i =>
    dsimp only [fz]
    unfold fzS
    split <;> (intro h; cases h)
  | _ => intro h; cases h
theorem fzs_ne : ∀ {ws : List W} {ρ : Env} {cn : Str} {fs : List (Str × D)} {ρ' : Env}, fzs ws ρ ≠ .ex cn fs ρ'
  | [], _, _, _, _ => fun h => by cases h
  | w :: ws, ρ, cn, fs, ρ' => fun h => by
    dsimp only [fzs, Z.bind] at h
    cases e1 : fz w ρ with
    | ex _ _ _ => exact fz_ne e1
    | bad => rw [e1] at h; cases h
    | ok d ρ1 =>
      rw [e1] at h
      dsimp only at h
      cases e2 : fzs ws ρ1 with
      | ex _ _ _ => exact fzs_ne e2
      | bad => rw [e2] at h; cases h
      | ok ds2 ρ2 => rw [e2] at h; cases h
theorem RdWs.len {F H : Hp} {σ : L2.St} {ρ : Env} : ∀ {xs : List V} {ws : List W}, RdWs c F σ H ρ xs ws → xs.length = ws.length
  | _, _, .nil => rfl
  | _, _, .cons _ _ r => by simp [r.len]
/-- behind an argument list whose values are given away -/
theorem liftA_fz {σ : L2.St} {H : Hp} {α : Type} {k : List D → Env → Z α} {Q : α → Env → Prop} {G : List V → Hp → Prop} (h : ∃ F ρ, Rs c F σ H ρ ∧ Pst c wx F σ ((mas ρ).bind fun ws ρ1 => (fzs ws ρ1).bind k) Q ∧
    ∀ ds ρ2 xs F2 H2, Same F F2 → Rs c F2 σ H2 ρ2 → RdL c.K c.mg F2 xs ds → Pst c wx F2 σ (k ds ρ2) Q → G xs H2) : liftA c wx mas σ H G := by
  obtain ⟨F, ρ, R, p, go⟩ := h
  refine ⟨F, ρ, R, p.bnd.im fun ws ρ1 p xs F1 H1 s1 R1 r1 => ?_⟩
  cases e : fzs ws ρ1 with
  | bad => rw [e] at p; exact p.elim
  | ex _ _ _ => exact absurd e fzs_ne
  | ok ds ρ2 =>
    rw [e] at p
    obtain ⟨F2, s2, R2, r2⟩ := fzs_ok R1 r1 e
    exact go ds ρ2 xs F2 H1 (s1.trans s2) R2 r2 (Pst.up (s1.trans s2) p fun _ _ k => k)
theorem lift_tup (σ : L2.St) (H : Hp) (Q : VK) (h : liftE c wx (E.tup mas) σ H Q) : tTup (liftA c wx mas) σ H Q := by
  obtain ⟨F, ρ, R, p⟩ := h
  refine ⟨F, ρ, R, p.bnd.im fun ws ρ1 p xs F1 H1 s1 R1 r1 => ?_⟩
  by_cases l : ws.length ≤ 1000
  · rw [if_pos l] at p
    refine ⟨by rw [r1.len, sizeLine_eq]; omega, fun q nq => ?_⟩
    cases e : fzs ws ρ1 with
    | bad => rw [e] at p; exact p.elim
    | ex _ _ _ => exact absurd e fzs_ne
    | ok ds ρ2 =>
      rw [e] at p
      obtain ⟨F2, s2, R2, r2⟩ := fzs_ok R1 r1 e
      have a := Adv.put (o := .tup xs) R2.up nq
      exact p _ _ _ ((s1.trans s2).trans a.ff) (R2.adv a) (.tup upd_same (r2.up a.ff))
  · rw [if_neg l] at p; exact p.elim
theorem pd_tup (h : PE X e (tTup (liftA c wx mas))) : PE X e (liftE c wx (E.tup mas)) := pd_of h lift_tup
theorem lift_lst (σ : L2.St) (H : Hp) (Q : VK) (h : liftE c wx (E.lst mas) σ H Q) : tLst (liftA c wx mas) σ H Q := by
  obtain ⟨F, ρ, R, p⟩ := h
  refine ⟨F, ρ, R, p.bnd.im fun ws ρ1 p xs F1 H1 s1 R1 r1 => ?_⟩
  by_cases l : ws.length ≤ 1000
  · rw [if_pos l] at p
    refine ⟨by rw [r1.len, sizeLine_eq]; omega, fun q nq => ?_⟩
    cases e : fzs ws ρ1 with
    | bad => rw [e] at p; exact p.elim
    | ex _ _ _ => exact absurd e fzs_ne
    | ok ds ρ2 =>
      rw [e] at p
      obtain ⟨F2, s2, R2, r2⟩ := fzs_ok R1 r1 e
      exact p _ F2 _ (s1.trans s2) (R2.alloc nq) ⟨q, xs, rfl, R2.up.free nq, R2.none0 nq, upd_same, r2, R2.noio nq, R2.notOwn nq⟩
  · rw [if_neg l] at p; exact p.elim
theorem pd_lst (h : PE X e (tLst (liftA c wx mas))) : PE X e (liftE c wx (E.lst mas)) := pd_of h lift_lst
theorem pks_ok {F H : Hp} {σ : L2.St} {ρ : Env} (R : Rs c F σ H ρ) : ∀ {xs : List V} {ws : List W} {ds : List D}, RdWs c F σ H ρ xs ws → pks ws ρ = some ds → PkL c.K c.mg F H xs ds
  | _, _, _, .nil, e => by cases e; exact .nil
  | _, _, _, .cons (w := w) (ws := ws) st h r, e => by
    dsimp only [pks] at e
    cases e1 : pk w ρ with
    | none => rw [e1] at e; cases e
    | some d =>
      cases e2 : pks ws ρ with
      | none => rw [e1, e2] at e; cases e
      | some ds =>
        rw [e1, e2] at e
        cases e
        exact .cons (R.pk h st e1) (pks_ok R r e2)
theorem lift_cb {r : List V → Hp → VK → Prop} {f : List D → Option W} (hf : CaD c.K c.mg r f) (σ : L2.St) (H : Hp) (Q : VK) (h : liftE c wx (E.cb f mas) σ H Q) : tCB r (liftA c wx mas) σ H Q := by
  obtain ⟨F, ρ, R, p⟩ := h
  refine ⟨F, ρ, R, p.bnd.im fun ws ρ1 p xs F1 H1 s1 R1 r1 => ?_⟩
  cases e : pks ws ρ1 with
  | none => rw [e] at p; exact p.elim
  | some ds =>
    rw [e] at p
    exact hf F1 H1 xs ds Q R1.up (pks_ok R1 r1 e) (R1.res (Pst.up s1 p fun w ρ' k x F' H' s => k x F' H' (s1.trans s)))
theorem pd_cb {r : List V → Hp → VK → Prop} {f : List D → Option W} (hf : CaD c.K c.mg r f) (h : PE X e (tCB r (liftA c wx mas))) : PE X e (liftE c wx (E.cb f mas)) := pd_of h (lift_cb hf)
/-! methods that only read -/
/-! a def called -/
def RdR (K : PySem.W.Frag) (mg : Str → Option Value) (F' H H' : Hp) (x : V) : W → Prop
  | .t d => Rd K mg F' x d
  | .f ds => ∃ q vs, x = .ref q ∧ F' q = none ∧ H q = none ∧ H' q = some (.lst vs) ∧ RdL K mg F' vs ds
  | .g b es => ∃ q, x = .ref q ∧ F' q = none ∧ H q = none ∧ DcAt K mg F' H' q b es
  | .o _ => False
def FrPost (K : PySem.W.Frag) (mg : Str → Option Value) (F H : Hp) (r : Fr) (Q : VK) (E : XK) : Prop :=
  match r with
  | .ok w _ => ∀ x F' H', Adv F H F' H' → RdR K mg F' H H' x w → Q x H'
  | .ex cn fs _ => ∀ C dd fsV F' H', mg cn = some (.ref C) → Adv F H F' H' → F' dd = some (.xd fsV) → RdF K mg F' fsV fs → E (.ref C) (some dd) H'
  | .bad => False
def spP (K : PySem.W.Frag) (mg : Str → Option Value) (n : Nat) (m : List D → Fr) : Sp := fun vs H Q E => vs.length = n ∧ ∃ F ds, Same F H ∧ RdL K mg F vs ds ∧ FrPost K mg F H (m ds) Q E
/-- a step of a callee that writes to the list at p -/
structure AdvI (p : Addr) (F H F' H' : Hp) : Prop where
  ff : Same F F'
  hh : ∀ q o, q ≠ p → H q = some o → H' q = some o
  fh : Same F' H'
  nw : ∀ q, F' q ≠ none → F q = none → H q = none
def FrPostI (K : PySem.W.Frag) (mg : Str → Option Value) (p : Addr) (F H : Hp) (r : Fr) (Q : VK) (E : XK) : Prop :=
  match r with
  | .ok w io => ∀ x F' H' vs, AdvI p F H F' H' → RdR K mg F' H H' x w → H' p = some (.lst vs) → RdL K mg F' vs io → Q x H'
  | .ex cn fs io => ∀ C dd fsV F' H' vs, mg cn = some (.ref C) → AdvI p F H F' H' → F' dd = some (.xd fsV) → RdF K mg F' fsV fs → H' p = some (.lst vs) → RdL K mg F' vs io → E (.ref C) (some dd) H'
  | .bad => False
def spI (K : PySem.W.Frag) (mg : Str → Option Value) (n : Nat) (m : List D → List D → Fr) : Sp := fun vs H Q E => vs.length = n + 1 ∧ ∃ F p us ios zs ds, vs = .ref p :: us ∧ Same F H ∧ F p = none ∧ H p = some (.lst ios) ∧ RdL K mg F ios zs ∧ RdL K mg F us ds ∧ FrPostI K mg p F H (m zs ds) Q E
theorem RdR.toW {F F1 H H1 : Hp} {σ : L2.St} {ρ ρ1 : Env} {x : V} {w : W} (R : Rs c F σ H ρ) (no : ∀ i, own ρ1 i → own ρ i) (r : RdR c.K c.mg F1 H H1 x w) : RdW c F1 σ H1 ρ1 x w := by
  cases w with
  | t d => exact r
  | o i => exact r.elim
  | f ds => obtain ⟨q, vs, e, n, nh, h, r⟩ := r; exact ⟨q, vs, e, n, R.none0 nh, h, r, R.noio nh, fun i oi => R.notOwn nh i (no i oi)⟩
  | g b es => obtain ⟨q, e, n, nh, dc⟩ := r; exact ⟨q, e, n, R.none0 nh, dc, R.noio nh, fun i oi => R.notOwn nh i (no i oi)⟩
theorem lift_call {n : Nat} {m : List D → Fr} (σ : L2.St) (H : Hp) (Q : VK) (h : liftE c wx (E.call n m mas) σ H Q) : tCallE (spP c.K c.mg n m) wx (liftA c wx mas) σ H Q := by
  obtain ⟨F, ρ, R, p⟩ := h
  refine liftA_fz ⟨F, ρ, R, p, fun ds ρ2 xs F2 H2 s2 R2 r2 p => ?_⟩
  by_cases l : ds.length = n
  · rw [if_pos l] at p
    refine ⟨by rw [r2.len]; exact l, F2, ds, R2.up, r2, ?_⟩
    dsimp only [E.frW] at p
    cases em : m ds with
    | bad => rw [em] at p; exact p.elim
    | ex cn fs io =>
      rw [em] at p
      exact fun C dd fsV F' H' hm a hd r => p C dd fsV F' H' σ hm a.ff (R2.adv a) hd r
    | ok w io =>
      rw [em] at p
      intro x F' H' a r
      cases w with
      | o i => exact p.elim
      | t d => exact p x F' H' (s2.trans a.ff) (R2.adv a) r
      | f zs => exact p x F' H' (s2.trans a.ff) (R2.adv a) (r.toW R2 fun i h => h)
      | g b es => exact p x F' H' (s2.trans a.ff) (R2.adv a) (r.toW R2 fun i h => h)
  · rw [if_neg l] at p; exact p.elim
theorem pd_call {n : Nat} {m : List D → Fr} (h : PE X e (tCallE (spP c.K c.mg n m) wx (liftA c wx mas))) : PE X e (liftE c wx (E.call n m mas)) := pd_of h lift_call
/-! a def called that writes to the list in slot i -/
theorem Rs.advI {F H F' H' : Hp} {σ : L2.St} {ρ : Env} {i : Nat} {o : Bool} {zs zs' : List D} {p : Addr} {vs' : List V} (R : Rs c F σ H ρ) (hi : ρ[i]? = some (.ol o zs)) (hp : σ[i]? = some (some (.ref p))) (a : AdvI p F H F' H') (h' : H' p = some (.lst vs')) (r' : RdL c.K c.mg F' vs' zs') :
    Rs c F' σ H' (ρ.set i (.ol o zs')) := by
  obtain ⟨q, vs, e, n, h, r, w⟩ := R.sl i _ hi
  rw [hp] at e; cases e
  have li : i < ρ.length := (List.getElem?_eq_some_iff.mp hi).1
  have pP : c.P p = none := by
    cases o with
    | true => have w : c.io = some p ∧ c.P p = none := by simpa using w
              exact w.2
    | false => have w : Fresh c p := by simpa using w
               exact w.2
  have keepN : ∀ {q : Addr} {ob : HO}, F q = none → H q = some ob → F' q = none := fun {q ob} nq hq => not_some fun z => by
    have := a.nw q z nq; rw [hq] at this; cases this
  have ow : ∀ {j : Nat}, own (ρ.set i (.ol o zs')) j → own ρ j := fun {j} oj => by
    by_cases ij : i = j
    · subst ij; exact .inl ⟨_, _, hi⟩
    · rcases oj with ⟨o, ds, h⟩ | ⟨b, es, h⟩
      · rw [List.getElem?_set_ne ij] at h; exact .inl ⟨_, _, h⟩
      · rw [List.getElem?_set_ne ij] at h; exact .inr ⟨_, _, h⟩
  refine ⟨by rw [List.length_set]; exact R.len, a.fh, R.up0.trans a.ff, fun q ob hq ne => ?_, fun q hq nq => ?_, fun q e nq => ?_, R.io0, fun q ob hq => ⟨a.hh q ob (fun z => by rw [z, pP] at hq; cases hq) (R.pr q ob hq).1, keepN (R.pr q ob hq).2 (R.pr q ob hq).1⟩, fun j s hs => ?_, fun j k q oj ok => R.dj j k q (ow oj) (ow ok)⟩
  · refine a.hh q ob (fun z => ?_) (R.fr q ob hq ne)
    subst z
    cases o with
    | true => exact ne (by have w : c.io = some q ∧ c.P q = none := by simpa using w
                           exact w.1.symm)
    | false => have w : Fresh c q := by simpa using w
               rw [w.1] at hq; cases hq
  · by_cases z : F q = none
    · exact (R.none0 (a.nw q hq z)).1
    · exact R.nw q z nq
  · by_cases z : q = p
    · subst z; rw [h'] at nq; cases nq
    · cases hq : H q with
      | none => exact R.ioH q e hq
      | some ob => rw [a.hh q ob z hq] at nq; cases nq
  · by_cases ij : i = j
    · subst ij
      rw [List.getElem?_set_self li] at hs
      cases hs
      exact ⟨p, vs', hp, keepN n h, h', r', w⟩
    · rw [List.getElem?_set_ne ij] at hs
      have r := R.sl j s hs
      cases s with
      | un => trivial
      | tr d => obtain ⟨v, e, r⟩ := r; exact ⟨v, e, r.up a.ff⟩
      | ol o2 ds =>
        obtain ⟨q, vs, e, n, h, r, w⟩ := r
        have ne : q ≠ p := fun z => ij (R.dj i j p (.inl ⟨_, _, hi⟩) (.inl ⟨_, _, hs⟩) hp (by rw [e, z]))
        exact ⟨q, vs, e, keepN n h, a.hh _ _ ne h, r.up a.ff, w⟩
      | od b es =>
        obtain ⟨q, e, n, h0, dc⟩ := r
        have ne : q ≠ p := fun z => ij (R.dj i j p (.inl ⟨_, _, hi⟩) (.inr ⟨_, _, hs⟩) hp (by rw [e, z]))
        obtain ⟨ob, ho⟩ := dc.ex
        refine ⟨q, e, keepN n ho, h0, ?_⟩
        rcases dc with ⟨e, kvs, h, r⟩ | ⟨e, kvs, h, r⟩
        · exact .inl ⟨e, kvs, a.hh _ _ ne h, r.up a.ff⟩
        · exact .inr ⟨e, kvs, a.hh _ _ ne h, r.up a.ff⟩
theorem own_setL {ρ : Env} {i j : Nat} {o : Bool} {zs zs' : List D} (hi : ρ[i]? = some (.ol o zs)) : own (ρ.set i (.ol o zs')) j → own ρ j := fun oj => by
  by_cases ij : i = j
  · subst ij; exact .inl ⟨_, _, hi⟩
  · rcases oj with ⟨o, ds, h⟩ | ⟨b, es, h⟩
    · rw [List.getElem?_set_ne ij] at h; exact .inl ⟨_, _, h⟩
    · rw [List.getElem?_set_ne ij] at h; exact .inr ⟨_, _, h⟩
theorem lift_callI {n i : Nat} {m : List D → List D → Fr} (σ : L2.St) (H : Hp) (Q : VK) (h : liftE c wx (E.callI n m i mas) σ H Q) : tCallE (spI c.K c.mg n m) wx (tCons (tVar i) (liftA c wx mas)) σ H Q := by
  obtain ⟨F, ρ, R, p⟩ := h
  dsimp only [E.callI] at p
  cases hi : ρ[i]? with
  | none => rw [hi] at p; exact p.elim
  | some s =>
    rw [hi] at p
    cases s with
    | ol o zs =>
      rw [if_pos (show E.isOl (some (Slot.ol o zs)) = true from rfl)] at p
      obtain ⟨q, vs, e, nq, hq, rq, w⟩ := R.sl i _ hi
      refine ⟨_, e, liftA_fz ⟨F, ρ, R, p, fun ds ρ2 xs F2 H2 s2 R2 r2 p => ?_⟩⟩
      by_cases l : ds.length = n
      · rw [if_pos l] at p
        cases hi2 : ρ2[i]? with
        | none => rw [hi2] at p; exact p.elim
        | some s2' =>
          rw [hi2] at p
          cases s2' with
          | ol o2 zs2 =>
            obtain ⟨q2, vs2, e2, nq2, hq2, rq2, w2⟩ := R2.sl i _ hi2
            rw [e] at e2; cases e2
            refine ⟨by rw [List.length_cons, r2.len]; omega, F2, q, xs, vs2, zs2, ds, rfl, R2.up, nq2, hq2, rq2, r2, ?_⟩
            dsimp only [E.caI] at p
            cases em : m zs2 ds with
            | bad => rw [em] at p; exact p.elim
            | ex cn fs io =>
              rw [em] at p
              exact fun C dd fsV F' H' ws hm a hd r hp rp => p C dd fsV F' H' σ hm a.ff (R2.advI hi2 e a hp rp) hd r
            | ok wv io =>
              rw [em] at p
              dsimp only [E.frI] at p
              intro x F' H' ws a r hp rp
              have R3 := R2.advI hi2 e a hp rp
              cases wv with
              | o i => exact p.elim
              | t d => exact p x F' H' (s2.trans a.ff) R3 r
              | f zs => exact p x F' H' (s2.trans a.ff) R3 (r.toW R2 fun i h => own_setL hi2 h)
              | g b es => exact p x F' H' (s2.trans a.ff) R3 (r.toW R2 fun i h => own_setL hi2 h)
          | _ => exact p.elim
      · rw [if_neg l] at p; exact p.elim
    | _ => exact p.elim
theorem pd_callI {n i : Nat} {m : List D → List D → Fr} (h : PE X e (tCallE (spI c.K c.mg n m) wx (tCons (tVar i) (liftA c wx mas)))) : PE X e (liftE c wx (E.callI n m i mas)) := pd_of h lift_callI
end
end Dx

namespace Dx
open PySem PySem.Spec PyProof.Rows L2 Hx
/-! ## statements -/
/-- a name gets what an expression gave -/
def store : Nat → W → Env → Z Sig
  | i, .t d, ρ => .ok .nx (ρ.set i (.tr d))
  | i, .f ds, ρ => .ok .nx (ρ.set i (.ol false ds))
  | i, .g b es, ρ => .ok .nx (ρ.set i (.od b es))
  | i, .o j, ρ => (fz (.o j) ρ).bind fun d ρ1 => .ok .nx (ρ1.set i (.tr d))
abbrev GM := D → Env → Option Env
abbrev GMs := List D → Env → Option Env
namespace G
@[simp] def name (i : Nat) (d : D) (ρ : Env) : Option Env := some (ρ.set i (.tr d))
def nil : GMs
  | [], ρ => some ρ
  | _ :: _, _ => none
def cons (g : GM) (gs : GMs) : GMs
  | d :: ds, ρ => (g d ρ).bind fun ρ1 => gs ds ρ1
  | [], _ => none
def tup (n : Nat) (gs : GMs) : GM
  | .tup ds, ρ => if ds.length = n then gs ds ρ else none
  | _, _ => none
end G
def foK (k : Env → Z Sig) : Sig → Env → Z Sig
  | .nx, ρ => k ρ
  | .ct, ρ => k ρ
  | .bk, ρ => .ok .nx ρ
  | .rt w, ρ => .ok (.rt w) ρ
@[simp] def forR (b : D → SM) : List D → SM
  | [], ρ => .ok .nx ρ
  | d :: ds, ρ => (b d ρ).bind fun sg ρ1 => foK (forR b ds) sg ρ1
def whR (t : TM) (b : SM) : Nat → SM
  | 0, _ => .bad
  | n + 1, ρ => (t ρ).bind fun x ρ1 => if x = true then (b ρ1).bind fun sg ρ2 => foK (whR t b n) sg ρ2
    else .ok .nx ρ1
abbrev IM := Env → Z (List D)
namespace S
@[simp] def nil (ρ : Env) : Z Sig := .ok .nx ρ
def sqR (b : SM) : Sig → Env → Z Sig
  | .nx, ρ => b ρ
  | .bk, ρ => .ok .bk ρ
  | .ct, ρ => .ok .ct ρ
  | .rt w, ρ => .ok (.rt w) ρ
@[simp] def seq (a b : SM) (ρ : Env) : Z Sig := (a ρ).bind fun sg ρ1 => sqR b sg ρ1
@[simp] def never (_ : Env) : Z Sig := .bad
@[simp] def set (i : Nat) (e : EM) (ρ : Env) : Z Sig := (e ρ).bind fun w ρ1 => store i w ρ1
def toN : Option Env → Z Sig
  | some ρ => .ok .nx ρ
  | none => .bad
@[simp] def asg (e : EM) (g : GM) (ρ : Env) : Z Sig := (e ρ).bind fun w ρ1 => (fz w ρ1).bind fun d ρ2 => toN (g d ρ2)
@[simp] def drop (e : EM) (ρ : Env) : Z Sig := (e ρ).bind fun _ ρ1 => .ok .nx ρ1
def retS : Option Slot → Nat → Env → Z Sig
  | some (.ol false ds), i, ρ => .ok (.rt (.f ds)) (ρ.set i .un)
  | some (.ol true _), _, _ => .bad
  | some (.od b es), i, ρ => .ok (.rt (.g b es)) (ρ.set i .un)
  | some (.tr d), _, ρ => .ok (.rt (.t d)) ρ
  | some .un, _, _ => .bad
  | none, _, _ => .bad
def retW : W → Env → Z Sig
  | .o i, ρ => retS ρ[i]? i ρ
  | .t d, ρ => .ok (.rt (.t d)) ρ
  | .f ds, ρ => .ok (.rt (.f ds)) ρ
  | .g b es, ρ => .ok (.rt (.g b es)) ρ
@[simp] def ret (e : EM) (ρ : Env) : Z Sig := (e ρ).bind fun w ρ1 => retW w ρ1
@[simp] def retN (ρ : Env) : Z Sig := .ok (.rt (.t .non)) ρ
@[simp] def brk (ρ : Env) : Z Sig := .ok .bk ρ
@[simp] def cnt (ρ : Env) : Z Sig := .ok .ct ρ
@[simp] def ifs (t : TM) (a b : SM) (ρ : Env) : Z Sig := (t ρ).bind fun x ρ1 => if x = true then a ρ1 else b ρ1
def onS (b : SM) : Option Env → Z Sig
  | some ρ => b ρ
  | none => .bad
@[simp] def foB (b : SM) (g : GM) (d : D) (ρ : Env) : Z Sig := onS b (g d ρ)
@[simp] def fo (s : IM) (g : GM) (b : SM) (ρ : Env) : Z Sig := (s ρ).bind fun ds ρ1 => forR (foB b g) ds ρ1
/-- far more turns than any loop here takes -/
def FU : Nat := 1000000000000
def wh (t : TM) (b : SM) (ρ : Env) : Z Sig := whR t b FU ρ
def auR (i : Nat) (f : D → D → Option W) (d0 : D) : Option D → Env → Z Sig
  | some d1, ρ => (toW (f d0 d1) ρ).bind fun w ρ2 => store i w ρ2
  | none, _ => .bad
def auS (i : Nat) (f : D → D → Option W) (e : EM) : Option Slot → Env → Z Sig
  | some (.tr d0), ρ => (e ρ).bind fun w ρ1 => auR i f d0 (pk w.st ρ1) ρ1
  | _, _ => .bad
@[simp] def aug (i : Nat) (f : D → D → Option W) (e : EM) (ρ : Env) : Z Sig := auS i f e ρ[i]? ρ
end S
section
variable {X : Cx} {K : PySem.W.Frag} {mg : Str → Option Value} {c : Ctx K mg} {wx : WX} {st : Stmt} {sts : List Stmt} {e : Expr} {me : EM} {ma mb : SM}
theorem pd_nil (h : PSs X sts tNext) : PSs X sts (liftS c wx S.nil) := pssI h fun D σ H ⟨F, ρ, R, p⟩ => p σ F H (Same.refl F) R
theorem pd_pass (h : PS X st tNext) : PS X st (liftS c wx S.nil) := psI h fun D σ H ⟨F, ρ, R, p⟩ => p σ F H (Same.refl F) R
theorem pd_never (h : PS X st tNever) : PS X st (liftS c wx S.never) := psI h fun D σ H ⟨F, ρ, R, p⟩ => p
theorem pd_brk (h : PS X st tBreak) : PS X st (liftS c wx S.brk) := psI h fun D σ H ⟨F, ρ, R, p⟩ => p σ F H (Same.refl F) R
theorem pd_cnt (h : PS X st tCont) : PS X st (liftS c wx S.cnt) := psI h fun D σ H ⟨F, ρ, R, p⟩ => p σ F H (Same.refl F) R
theorem lift_seq (D : Ends) (σ : L2.St) (H : Hp) (h : liftS c wx (S.seq ma mb) D σ H) : tSeq (liftS c wx ma) (liftS c wx mb) D σ H := by
  obtain ⟨F, ρ, R, p⟩ := h
  refine ⟨F, ρ, R, p.bnd.im fun sg ρ1 p => ?_⟩
  cases sg with
  | nx => exact fun σ' F' H' s R' => ⟨F', ρ1, R', Pst.up s p fun sg ρ2 k => k.up s⟩
  | bk => exact p
  | ct => exact p
  | rt w => exact p
theorem pd_seq (h : PSs X sts (tSeq (liftS c wx ma) (liftS c wx mb))) : PSs X sts (liftS c wx (S.seq ma mb)) := pssI h lift_seq
theorem Rs.setTr {F H : Hp} {σ : L2.St} {ρ : Env} {i : Nat} {x : V} {d : D} (R : Rs c F σ H ρ) (r : Rd c.K c.mg F x d) : Rs c F (σ.set i (some x)) H (ρ.set i (.tr d)) := by
  refine ⟨by rw [List.length_set, List.length_set]; exact R.len, R.up, R.up0, R.fr, R.nw, R.ioH, R.io0, R.pr, fun j s hs => ?_, fun j k q oj ok ej ek => ?_⟩
  · by_cases ij : i = j
    · subst ij
      have l : i < ρ.length := by
        have := (List.getElem?_eq_some_iff.mp hs).1
        rw [List.length_set] at this; exact this
      rw [List.getElem?_set_self l] at hs
      cases hs
      exact ⟨x, List.getElem?_set_self (by rw [R.len]; exact l), r⟩
    · rw [List.getElem?_set_ne ij] at hs
      have e : (σ.set i (some x))[j]? = σ[j]? := List.getElem?_set_ne ij
      have r := R.sl j s hs
      cases s with
      | un => trivial
      | tr d => obtain ⟨v, e2, r⟩ := r; exact ⟨v, by rw [e]; exact e2, r⟩
      | ol o ds => obtain ⟨q, vs, e2, r⟩ := r; exact ⟨q, vs, by rw [e]; exact e2, r⟩
      | od b es => obtain ⟨q, e2, r⟩ := r; exact ⟨q, by rw [e]; exact e2, r⟩
  · obtain ⟨oj, nj⟩ := own_set oj
    obtain ⟨ok, nk⟩ := own_set ok
    rw [List.getElem?_set_ne (Ne.symm nj)] at ej
    rw [List.getElem?_set_ne (Ne.symm nk)] at ek
    exact R.dj j k q oj ok ej ek
theorem Rs.setOwn {F H : Hp} {σ : L2.St} {ρ : Env} {i : Nat} {q : Addr} {s : Slot} (R : Rs c F σ H ρ) (so : (∃ ds, s = .ol false ds) ∨ ∃ b es, s = .od b es) (r : RdS c F (σ.set i (some (.ref q))) H i s) (no : ∀ j, own ρ j → σ[j]? ≠ some (some (.ref q))) :
    Rs c F (σ.set i (some (.ref q))) H (ρ.set i s) := by
  have ow : ∀ {j}, own (ρ.set i s) j → j ≠ i → own ρ j := fun {j} oj nj => by
    rcases oj with ⟨o, ds, h⟩ | ⟨b, es, h⟩
    · rw [List.getElem?_set_ne (Ne.symm nj)] at h; exact .inl ⟨_, _, h⟩
    · rw [List.getElem?_set_ne (Ne.symm nj)] at h; exact .inr ⟨_, _, h⟩
  have inr : ∀ {j : Nat} {p : Addr}, own (ρ.set i s) j → j = i → (σ.set i (some (.ref q)))[j]? = some (some (.ref p)) → p = q := fun {j p} oj e h => by
    subst e
    have l : j < (σ.set j (some (.ref q))).length := (List.getElem?_eq_some_iff.mp h).1
    rw [List.length_set] at l
    rw [List.getElem?_set_self l] at h
    cases h; rfl
  refine ⟨by rw [List.length_set, List.length_set]; exact R.len, R.up, R.up0, R.fr, R.nw, R.ioH, R.io0, R.pr, fun j s' hs => ?_, fun j k p oj ok ej ek => ?_⟩
  · by_cases ij : i = j
    · subst ij
      have l : i < ρ.length := by
        have := (List.getElem?_eq_some_iff.mp hs).1
        rw [List.length_set] at this; exact this
      rw [List.getElem?_set_self l] at hs
      cases hs
      exact r
    · rw [List.getElem?_set_ne ij] at hs
      have e : (σ.set i (some (.ref q)))[j]? = σ[j]? := List.getElem?_set_ne ij
      have r := R.sl j s' hs
      cases s' with
      | un => trivial
      | tr d => obtain ⟨v, e2, r⟩ := r; exact ⟨v, by rw [e]; exact e2, r⟩
      | ol o ds => obtain ⟨q, vs, e2, r⟩ := r; exact ⟨q, vs, by rw [e]; exact e2, r⟩
      | od b es => obtain ⟨q, e2, r⟩ := r; exact ⟨q, by rw [e]; exact e2, r⟩
  · by_cases ji : j = i
    · by_cases ki : k = i
      · rw [ji, ki]
      · have z := inr oj ji ej
        rw [List.getElem?_set_ne (Ne.symm ki)] at ek
        rw [z] at ek
        exact absurd ek (no k (ow ok ki))
    · by_cases ki : k = i
      · have z := inr ok ki ek
        rw [List.getElem?_set_ne (Ne.symm ji)] at ej
        rw [z] at ej
        exact absurd ej (no j (ow oj ji))
      · rw [List.getElem?_set_ne (Ne.symm ji)] at ej
        rw [List.getElem?_set_ne (Ne.symm ki)] at ek
        exact R.dj j k p (ow oj ji) (ow ok ki) ej ek
theorem store_ok {F F0 H : Hp} {σ : L2.St} {ρ : Env} {i : Nat} {x : V} {w : W} {K : Sig → Env → Prop} (s0 : Same F0 F) (R : Rs c F σ H ρ) (r : RdW c F σ H ρ x w) (p : Pst c wx F0 σ (store i w ρ) K) :
    ∃ ρ' F', K .nx ρ' ∧ Same F F' ∧ Rs c F' (σ.set i (some x)) H ρ' := by
  cases w with
  | t d => exact ⟨_, F, p, Same.refl F, R.setTr r⟩
  | f ds =>
    obtain ⟨q, vs, rfl, n, h0, h, r, nio, no⟩ := r
    by_cases l : i < ρ.length
    · exact ⟨_, F, p, Same.refl F, R.setOwn (.inl ⟨_, rfl⟩) ⟨q, vs, List.getElem?_set_self (by rw [R.len]; exact l), n, h, r, h0⟩ no⟩
    · have e1 : ρ.set i (.ol false ds) = ρ := List.set_eq_of_length_le (by omega)
      have e2 : σ.set i (some (.ref q)) = σ := List.set_eq_of_length_le (by rw [R.len]; omega)
      exact ⟨_, F, p, Same.refl F, by rw [e1, e2]; exact R⟩
  | g b es =>
    obtain ⟨q, rfl, n, h0, dc, nio, no⟩ := r
    by_cases l : i < ρ.length
    · exact ⟨_, F, p, Same.refl F, R.setOwn (.inr ⟨_, _, rfl⟩) ⟨q, List.getElem?_set_self (by rw [R.len]; exact l), n, h0, dc⟩ no⟩
    · have e1 : ρ.set i (.od b es) = ρ := List.set_eq_of_length_le (by omega)
      have e2 : σ.set i (some (.ref q)) = σ := List.set_eq_of_length_le (by rw [R.len]; omega)
      exact ⟨_, F, p, Same.refl F, by rw [e1, e2]; exact R⟩
  | o j =>
    dsimp only [store] at p
    cases e : fz (.o j) ρ with
    | bad => rw [e] at p; exact p.elim
    | ex _ _ _ => exact absurd e fz_ne
    | ok d ρ1 =>
      rw [e] at p
      obtain ⟨F1, s1, R1, r1⟩ := fz_ok R r e
      exact ⟨_, F1, p, s1, R1.setTr r1⟩
theorem lift_set {i : Nat} (D : Ends) (σ : L2.St) (H : Hp) (h : liftS c wx (S.set i me) D σ H) : tAsg (liftE c wx me) (gName i) D σ H := by
  obtain ⟨F, ρ, R, p⟩ := h
  refine ⟨F, ρ, R, p.bnd.im fun w ρ1 p x F1 H1 s1 R1 r1 => ?_⟩
  obtain ⟨ρ2, F2, k, s2, R2⟩ := store_ok s1 R1 r1 p
  exact k _ F2 H1 (s1.trans s2) R2
theorem pd_set {i : Nat} (h : PS X st (tAsg (liftE c wx me) (gName i))) : PS X st (liftS c wx (S.set i me)) := psI h lift_set
theorem lift_drop (D : Ends) (σ : L2.St) (H : Hp) (h : liftS c wx (S.drop me) D σ H) : tDrop (liftE c wx me) D σ H := by
  obtain ⟨F, ρ, R, p⟩ := h
  exact ⟨F, ρ, R, p.bnd.im fun w ρ1 p x F1 H1 s1 R1 r1 => p σ F1 H1 s1 R1⟩
theorem pd_drop (h : PS X st (tDrop (liftE c wx me))) : PS X st (liftS c wx (S.drop me)) := psI h lift_drop
theorem own_un {ρ : Env} {i j : Nat} (h : own (ρ.set i .un) j) : own ρ j ∧ j ≠ i := by
  by_cases e : i = j
  · subst e
    rcases h with ⟨o, ds, h⟩ | ⟨b, es, h⟩ <;>
    · rw [List.getElem?_set] at h
      simp at h
  · refine ⟨?_, Ne.symm e⟩
    rcases h with ⟨o, ds, h⟩ | ⟨b, es, h⟩
    · rw [List.getElem?_set_ne e] at h; exact .inl ⟨_, _, h⟩
    · rw [List.getElem?_set_ne e] at h; exact .inr ⟨_, _, h⟩
theorem Rs.setUn {F H : Hp} {σ : L2.St} {ρ : Env} {i : Nat} (R : Rs c F σ H ρ) : Rs c F σ H (ρ.set i .un) := by
  refine ⟨by rw [List.length_set]; exact R.len, R.up, R.up0, R.fr, R.nw, R.ioH, R.io0, R.pr, fun j s hs => ?_, fun j k q oj ok => R.dj j k q (own_un oj).1 (own_un ok).1⟩
  by_cases ij : i = j
  · subst ij
    rw [List.getElem?_set] at hs
    simp at hs
    rw [← hs.2]; trivial
  · rw [List.getElem?_set_ne ij] at hs; exact R.sl j s hs
theorem lift_ret (D : Ends) (σ : L2.St) (H : Hp) (h : liftS c wx (S.ret me) D σ H) : tRet (liftE c wx me) D σ H := by
  obtain ⟨F, ρ, R, p⟩ := h
  refine ⟨F, ρ, R, p.bnd.im fun w ρ1 p x F1 H1 s1 R1 r1 => ?_⟩
  cases w with
  | t d => exact p x σ F1 H1 s1 R1 r1
  | f ds => exact p x σ F1 H1 s1 R1 r1
  | g b es => exact p x σ F1 H1 s1 R1 r1
  | o i =>
    obtain ⟨q, rfl, es⟩ := r1
    dsimp only [S.retW] at p
    cases hs : ρ1[i]? with
    | none => rw [hs] at p; exact p.elim
    | some sl =>
      rw [hs] at p
      have r := R1.sl i sl hs
      cases sl with
      | un => exact p.elim
      | tr d =>
        obtain ⟨v, e, r⟩ := r
        rw [es] at e; cases e
        exact p _ σ F1 H1 s1 R1 r
      | ol o ds =>
        cases o with
        | true => exact p.elim
        | false =>
          obtain ⟨q2, vs, e, n, h, r, h0⟩ := r
          rw [es] at e; cases e
          have h0 : Fresh c q := h0
          refine p _ σ F1 H1 s1 R1.setUn ⟨q, vs, rfl, n, h0, h, r, fun z => ?_, fun j oj ej => ?_⟩
          · exact R.io0 q z.symm h0.1
          · obtain ⟨oj, nj⟩ := own_un oj
            exact nj (R1.dj j i q oj (.inl ⟨_, _, hs⟩) ej es)
      | od b kvs =>
        obtain ⟨q2, e, n, h0, dc⟩ := r
        rw [es] at e; cases e
        refine p _ σ F1 H1 s1 R1.setUn ⟨q, rfl, n, h0, dc, fun z => ?_, fun j oj ej => ?_⟩
        · exact R.io0 q z.symm h0.1
        · obtain ⟨oj, nj⟩ := own_un oj
          exact nj (R1.dj j i q oj (.inr ⟨_, _, hs⟩) ej es)
theorem pd_ret (h : PS X st (tRet (liftE c wx me))) : PS X st (liftS c wx (S.ret me)) := psI h lift_ret
theorem pd_retN (h : PS X st tRetN) : PS X st (liftS c wx S.retN) := psI h fun D σ H ⟨F, ρ, R, p⟩ => p _ σ F H (Same.refl F) R .non
theorem lift_ifs {t : TM} (D : Ends) (σ : L2.St) (H : Hp) (h : liftS c wx (S.ifs t ma mb) D σ H) : tIfS (liftT c wx t) (liftS c wx ma) (liftS c wx mb) D σ H := by
  obtain ⟨F, ρ, R, p⟩ := h
  refine ⟨F, ρ, R, p.bnd.im fun b ρ1 p F1 H1 s1 R1 => ?_⟩
  cases b with
  | true => exact iteT ⟨F1, ρ1, R1, Pst.up s1 p fun sg ρ2 k => k.up s1⟩
  | false => exact iteF ⟨F1, ρ1, R1, Pst.up s1 p fun sg ρ2 k => k.up s1⟩
theorem pd_ifs {t : TM} (h : PS X st (tIfS (liftT c wx t) (liftS c wx ma) (liftS c wx mb))) : PS X st (liftS c wx (S.ifs t ma mb)) := psI h lift_ifs
/-! targets: ns are the names that get a value -/
def liftG {K : PySem.W.Frag} {mg : Str → Option Value} (c : Ctx K mg) (ns : List Nat) (g : GM) : TG := fun v σ H Q => ∃ F ρ d, Rs c F σ H ρ ∧ Rd c.K c.mg F v d ∧ match g d ρ with
  | some ρ' => ∀ σ' F' H', Same F F' → Rs c F' σ' H' ρ' → (∀ i, i ∉ ns → σ'[i]? = σ[i]?) → σ'.length = σ.length → Q σ' H'
  | none => False
def liftGs {K : PySem.W.Frag} {mg : Str → Option Value} (c : Ctx K mg) (ns : List Nat) (g : GMs) : TGs := fun vs σ H Q => ∃ F ρ ds, Rs c F σ H ρ ∧ RdL c.K c.mg F vs ds ∧ match g ds ρ with
  | some ρ' => ∀ σ' F' H', Same F F' → Rs c F' σ' H' ρ' → (∀ i, i ∉ ns → σ'[i]? = σ[i]?) → σ'.length = σ.length → Q σ' H'
  | none => False
theorem pd_gname {i : Nat} (h : PG X e (gName i)) : PG X e (liftG c [i] (G.name i)) := pgI h fun v σ H Q ⟨F, ρ, d, R, r, p⟩ =>
  p _ _ _ (Same.refl F) (R.setTr r) (fun j hj => List.getElem?_set_ne (fun z => hj (by rw [z]; exact List.mem_singleton.mpr rfl))) (List.length_set ..)
theorem pd_gnil {es : List Expr} (h : PGs X es gNil) : PGs X es (liftGs c [] G.nil) := pgsI h fun vs σ H Q ⟨F, ρ, ds, R, r, p⟩ => by
  cases r with
  | nil => exact ⟨rfl, p σ F H (Same.refl F) R (fun _ _ => rfl) rfl⟩
  | cons _ _ => exact p.elim
theorem pd_gcons {es : List Expr} {n1 n2 : List Nat} {g : GM} {gs : GMs} (h : PGs X es (gCons (liftG c n1 g) (liftGs c n2 gs))) : PGs X es (liftGs c (n1 ++ n2) (G.cons g gs)) := pgsI h fun vs σ H Q ⟨F, ρ, ds, R, r, p⟩ => by
  cases r with
  | nil => exact p.elim
  | @cons v vs d ds r rr =>
    refine ⟨v, vs, rfl, F, ρ, d, R, r, ?_⟩
    dsimp only [G.cons] at p
    cases e1 : g d ρ with
    | none => rw [e1] at p; exact p.elim
    | some ρ1 =>
      rw [e1] at p
      dsimp only [Option.bind] at p
      refine fun σ1 F1 H1 s1 R1 a1 l1 => ⟨F1, ρ1, ds, R1, rr.up s1, ?_⟩
      cases e2 : gs ds ρ1 with
      | none => rw [e2] at p; exact p.elim
      | some ρ2 =>
        rw [e2] at p
        exact fun σ2 F2 H2 s2 R2 a2 l2 => p σ2 F2 H2 (s1.trans s2) R2 (fun i hi => (a2 i fun z => hi (List.mem_append_right _ z)).trans (a1 i fun z => hi (List.mem_append_left _ z))) (l2.trans l1)
theorem pd_gtup {ns : List Nat} {n : Nat} {gs : GMs} (h : PG X e (gTup c.K n (liftGs c ns gs))) : PG X e (liftG c ns (G.tup n gs)) := pgI h fun v σ H Q ⟨F, ρ, d, R, r, p⟩ => by
  cases d with
  | tup ds =>
    dsimp only [G.tup] at p
    by_cases l : ds.length = n
    · rw [if_pos l] at p
      obtain ⟨a, vs, rfl, hs, rl⟩ := r.inv_tup
      exact ⟨a, vs, rfl, st_of (R.up _ _ hs), by rw [rl.len]; exact l, F, ρ, ds, R, rl, p⟩
    · rw [if_neg l] at p; exact p.elim
  | _ => exact p.elim
theorem lift_asg {ns : List Nat} {g : GM} (D : Ends) (σ : L2.St) (H : Hp) (h : liftS c wx (S.asg me g) D σ H) : tAsg (liftE c wx me) (liftG c ns g) D σ H := by
  obtain ⟨F, ρ, R, p⟩ := h
  refine ⟨F, ρ, R, p.bnd.im fun w ρ1 p x F1 H1 s1 R1 r1 => ?_⟩
  cases e : fz w ρ1 with
  | bad => rw [e] at p; exact p.elim
  | ex _ _ _ => exact absurd e fz_ne
  | ok d ρ2 =>
    rw [e] at p
    obtain ⟨F2, s2, R2, r2⟩ := fz_ok R1 r1 e
    refine ⟨F2, ρ2, d, R2, r2, ?_⟩
    dsimp only [Z.bind] at p
    cases e3 : g d ρ2 with
    | none => rw [e3] at p; exact p.elim
    | some ρ3 => rw [e3] at p; exact fun σ' F' H' s' R' _ _ => p σ' F' H' ((s1.trans s2).trans s') R'
theorem pd_asg {ns : List Nat} {g : GM} (h : PS X st (tAsg (liftE c wx me) (liftG c ns g))) : PS X st (liftS c wx (S.asg me g)) := psI h lift_asg
/-! what is walked -/
def Steps {K : PySem.W.Frag} {mg : Str → Option Value} (c : Ctx K mg) (J : It) (ds : List D) (F0 : Hp) : Prop := ∀ i F H, Same F0 F → Same F H → (i < ds.length → J.go i H ∧ ∀ x H', J.yld i H x H' → ∃ F', Adv F H F' H' ∧ ∀ d, ds[i]? = some d → Rd c.K c.mg F' x d) ∧ (i = ds.length → J.stop i H)
def liftI {K : PySem.W.Frag} {mg : Str → Option Value} (c : Ctx K mg) (wx : WX) (s : IM) : TI := fun σ H R => ∃ F ρ, Rs c F σ H ρ ∧ Pst c wx F σ (s ρ) fun ds ρ' => ∀ J F' H', Same F F' → Rs c F' σ H' ρ' → Steps c J ds F' → R J H'
theorem lift_fo {ns : List Nat} {s : IM} {g : GM} {b : SM} (Y : Ends) (σ : L2.St) (H : Hp) (h : liftS c wx (S.fo s g b) Y σ H) : tFor (liftI c wx s) (liftG c ns g) (liftS c wx b) Y σ H := by
  obtain ⟨F, ρ, R, p⟩ := h
  refine ⟨F, ρ, R, p.bnd.im fun ds ρ1 p J F1 H1 s1 R1 st => ?_⟩
  generalize hB : S.foB b g = B at p
  refine ⟨fun i m σ' H' => m = ds.length - i ∧ i ≤ ds.length ∧ ∃ F' ρ', Same F1 F' ∧ Rs c F' σ' H' ρ' ∧ Pst c wx F' σ' (forR B (ds.drop i) ρ') fun sg ρ2 => SgP c F' ρ2 Y sg, ⟨ds.length, by simp, Nat.zero_le _, F1, ρ1, Same.refl F1, R1, Pst.up s1 p fun sg ρ2 k => k.up s1⟩, ?_⟩
  rintro i m σ' H' ⟨rfl, hi, F', ρ', s', R', p'⟩
  obtain ⟨go, stop⟩ := st i F' H' s' R'.up
  by_cases hl : i < ds.length
  · obtain ⟨g1, g2⟩ := go hl
    have ed : ds[i]? = some ds[i] := List.getElem?_eq_getElem hl
    rw [List.drop_eq_getElem_cons hl] at p'
    generalize ds[i] = d at ed p'
    refine .inr ⟨g1, fun σ2 H2 => ∃ F2 ρ2, Same F1 F2 ∧ Rs c F2 σ2 H2 ρ2 ∧ Pst c wx F2 σ2 (forR B (ds.drop (i + 1)) ρ2) fun sg ρ3 => SgP c F2 ρ3 Y sg,
      fun σ2 H2 ⟨F2, ρ2, a, b, c⟩ => ⟨ds.length - (i + 1), by omega, rfl, hl, F2, ρ2, a, b, c⟩, fun x H2 y => ?_⟩
    obtain ⟨F2, a, rd⟩ := g2 x H2 y
    refine ⟨F2, ρ', d, R'.adv a, rd d ed, ?_⟩
    dsimp only [forR] at p'
    rw [← hB] at p'
    have p' := Pst.bnd p'
    dsimp only [S.foB] at p'
    cases eg : g d ρ' with
    | none => rw [eg] at p'; exact p'.elim
    | some ρ2 =>
      rw [eg] at p'
      refine fun σ3 F3 H3 s3 R3 _ _ => ⟨F3, ρ2, R3, Pst.up (a.ff.trans s3) p' fun sg ρ4 k => ?_⟩
      replace a := a.ff.trans s3
      rw [hB] at k
      cases sg with
      | nx => exact fun σ5 F5 H5 s5 R5 => ⟨F5, ρ4, (s'.trans a).trans s5, R5, Pst.up (a.trans s5) k fun sg ρ6 k => k.up (a.trans s5)⟩
      | ct => exact fun σ5 F5 H5 s5 R5 => ⟨F5, ρ4, (s'.trans a).trans s5, R5, Pst.up (a.trans s5) k fun sg ρ6 k => k.up (a.trans s5)⟩
      | bk => exact fun σ5 F5 H5 s5 R5 => k σ5 F5 H5 (a.trans s5) R5
      | rt w => exact fun x σ5 F5 H5 s5 R5 r => k x σ5 F5 H5 (a.trans s5) R5 r
  · have e : i = ds.length := by omega
    subst e
    rw [List.drop_length] at p'
    exact .inl ⟨stop rfl, p' σ' F' H' (Same.refl _) R'⟩
theorem pd_fo {ns : List Nat} {s : IM} {g : GM} {b : SM} (h : PS X st (tFor (liftI c wx s) (liftG c ns g) (liftS c wx b))) : PS X st (liftS c wx (S.fo s g b)) := psI h lift_fo
theorem lift_wh {t : TM} {b : SM} (D : Ends) (σ : L2.St) (H : Hp) (h : liftS c wx (S.wh t b) D σ H) : tWhile (liftT c wx t) (liftS c wx b) D σ H := by
  obtain ⟨F, ρ, R, p⟩ := h
  refine ⟨fun m σ' H' => ∃ F' ρ', Rs c F' σ' H' ρ' ∧ Pst c wx F' σ' (whR t b m ρ') fun sg ρ2 => SgP c F' ρ2 D sg, ⟨S.FU, F, ρ, R, p⟩, ?_⟩
  rintro m σ' H' ⟨F', ρ', R', p'⟩
  cases m with
  | zero => exact p'.elim
  | succ n =>
    unfold whR at p'
    refine ⟨F', ρ', R', (Pst.bnd p').im fun x ρ2 p2 F2 H2 s2 R2 => ?_⟩
    cases x with
    | false => exact p2 σ' F2 H2 s2 R2
    | true =>
      refine ⟨fun σ3 H3 => ∃ F3 ρ3, Rs c F3 σ3 H3 ρ3 ∧ Pst c wx F3 σ3 (whR t b n ρ3) fun sg ρ2 => SgP c F3 ρ2 D sg, fun σ3 H3 w => ⟨n, Nat.lt_succ_self n, w⟩, F2, ρ2, R2, Pst.up s2 (Pst.bnd p2) fun sg ρ4 k => ?_⟩
      cases sg with
      | nx => exact fun σ5 F5 H5 s5 R5 => ⟨F5, ρ4, R5, Pst.up (s2.trans s5) k fun sg ρ6 k => k.up (s2.trans s5)⟩
      | ct => exact fun σ5 F5 H5 s5 R5 => ⟨F5, ρ4, R5, Pst.up (s2.trans s5) k fun sg ρ6 k => k.up (s2.trans s5)⟩
      | bk => exact fun σ5 F5 H5 s5 R5 => k σ5 F5 H5 (s2.trans s5) R5
      | rt w => exact fun x σ5 F5 H5 s5 R5 r => k x σ5 F5 H5 (s2.trans s5) R5 r
theorem pd_wh {t : TM} {b : SM} (h : PS X st (tWhile (liftT c wx t) (liftS c wx b))) : PS X st (liftS c wx (S.wh t b)) := psI h lift_wh
theorem lift_aug {i : Nat} {r : R2} {f : D → D → Option W} (hf : OpD2 c.K c.mg r f) (D : Ends) (σ : L2.St) (H : Hp) (h : liftS c wx (S.aug i f me) D σ H) : tAug i (liftE c wx me) r D σ H := by
  obtain ⟨F, ρ, R, p⟩ := h
  dsimp only [S.aug] at p
  cases hi : ρ[i]? with
  | none => rw [hi] at p; exact p.elim
  | some s =>
    rw [hi] at p
    cases s with
    | tr d0 =>
      obtain ⟨v, e, r0⟩ := R.sl i _ hi
      refine ⟨v, e, F, ρ, R, (Pst.bnd p).im fun w1 ρ1 p y F1 H1 s1 R1 r1 => ?_⟩
      obtain ⟨F1', s1', R1', r1'⟩ := r1.toSt R1
      cases e1 : pk w1.st ρ1 with
      | none => rw [e1] at p; exact p.elim
      | some d1 =>
        rw [e1] at p
        refine hf F1' H1 v y d0 d1 _ R1'.up (.inl (r0.up (s1.trans s1'))) (R1'.pk r1' (by cases w1 <;> rfl) e1) (R1'.res (wx := wx) (Pst.up (s1.trans s1') (Pst.bnd p) fun w ρ2 k x F' H' s' R' r' => ?_))
        obtain ⟨ρ3, F3, k, s3, R3⟩ := store_ok ((s1.trans s1').trans s') R' r' k
        exact k _ F3 H' (((s1.trans s1').trans s').trans s3) R3
    | _ => exact p.elim
theorem pd_aug {i : Nat} {r : R2} {f : D → D → Option W} (hf : OpD2 c.K c.mg r f) (h : PS X st (tAug i (liftE c wx me) r)) : PS X st (liftS c wx (S.aug i f me)) := psI h (lift_aug hf)
end
end Dx

namespace Dx
open PySem PySem.Spec PyProof.Rows L2 Hx
/-! ## list comprehensions -/
def noX {α : Type} : Z α → Z α
  | .ok a ρ => .ok a ρ
  | .ex _ _ _ => .bad
  | .bad => .bad
@[simp] def unE (ρ : Env) : List Nat → Env
  | [] => ρ
  | v :: vs => (unE ρ vs).set v .un
@[simp] def reE (ρ0 ρ : Env) : List Nat → Env
  | [] => ρ
  | v :: vs => (reE ρ0 ρ vs).set v ((ρ0[v]?).getD .un)
def plainS : Option Slot → Bool
  | some .un => true
  | some (.tr _) => true
  | some (.ol _ _) => false
  | some (.od _ _) => false
  | none => false
def onL (k : Env → Z (List D)) : Option Env → Z (List D)
  | some ρ => k ρ
  | none => .bad
@[simp] def lcR (vs : List Nat) (g : GM) (t : TM) (e : EM) : List D → Env → Z (List D)
  | [], ρ => .ok [] ρ
  | d :: ds, ρ => onL (fun ρ1 => (noX (t ρ1)).bind fun b ρ2 => if b = true then (noX (e ρ2)).bind fun w ρ3 => (fz w ρ3).bind fun y ρ4 => (lcR vs g t e ds (unE ρ4 vs)).bind fun ys ρ5 => .ok (y :: ys) ρ5
      else lcR vs g t e ds (unE ρ2 vs)) (g d ρ)
@[simp] def E.lc (vs : List Nat) (s : IM) (g : GM) (t : TM) (e : EM) (ρ : Env) : Z W := (s ρ).bind fun ds ρ1 => if ds.length ≤ 16000000 ∧ vs.all (fun v => plainS ρ1[v]?) = true then
    (lcR vs g t e ds (unE ρ1 vs)).bind fun ys ρ2 => .ok (.f ys) (reE ρ1 ρ2 vs)
  else .bad
def WF : WX := fun _ _ _ _ => False
section
variable {K : PySem.W.Frag} {mg : Str → Option Value}
def liftG' (K : PySem.W.Frag) (mg : Str → Option Value) (ns : List Nat) (g : GM) : TG := fun v σ H Q => ∃ c : Ctx K mg, liftG c ns g v σ H Q
def liftT' (K : PySem.W.Frag) (mg : Str → Option Value) (t : TM) : TT := fun σ H Q => ∃ c : Ctx K mg, liftT c WF t σ H Q
def liftE' (K : PySem.W.Frag) (mg : Str → Option Value) (m : EM) : TE := fun σ H Q => ∃ c : Ctx K mg, liftE c WF m σ H Q
theorem pgA {X : Cx} {e : Expr} {ns : List Nat} {g : GM} (h : ∀ c : Ctx K mg, PG X e (liftG c ns g)) : PG X e (liftG' K mg ns g) := ⟨fun pins s σ H v u Q I r ⟨c, q⟩ => (h c).run pins s σ H v u Q I r q⟩
theorem peA {X : Cx} {e : Expr} {m : EM} (h : ∀ c : Ctx K mg, PE X e (liftE c WF m)) : PE X e (liftE' K mg m) := ⟨fun pins s σ H Q I ⟨c, q⟩ => (h c).run pins s σ H Q I q⟩
theorem ptsA {X : Cx} {e : Expr} {t : TM} (h : ∀ c : Ctx K mg, PT X e (liftT c WF t)) : PTs X [e] (liftT' K mg t) := pts_one ⟨fun pins s σ H Q I ⟨c, q⟩ => (h c).run pins s σ H Q I q⟩
theorem ptsN {X : Cx} : PTs X [] (liftT' K mg T.yes) := ptsI pts_nil fun σ H Q ⟨c, F, ρ, R, p⟩ => p F H (Same.refl F) R
end
section
variable {K : PySem.W.Frag} {mg : Str → Option Value} {c : Ctx K mg} {wx : WX} {F F1 H H1 : Hp} {σ σ' : L2.St} {ρ ρ1 : Env} {q p : Addr} {o : HO}
theorem unE_len : ∀ vs : List Nat, (unE ρ vs).length = ρ.length
  | [] => rfl
  | v :: vs => by rw [unE, List.length_set, unE_len vs]
theorem unE_out {i : Nat} : ∀ {vs : List Nat}, i ∉ vs → (unE ρ vs)[i]? = ρ[i]?
  | [], _ => rfl
  | v :: vs, h => by
    rw [unE, List.getElem?_set_ne (fun z => h (by rw [z]; exact List.mem_cons_self)), unE_out fun z => h (List.mem_cons_of_mem _ z)]
theorem unE_in {i : Nat} {s : Slot} : ∀ {vs : List Nat}, i ∈ vs → (unE ρ vs)[i]? = some s → s = .un
  | v :: vs, h, e => by
    rw [unE] at e
    by_cases z : v = i
    · subst z
      rw [List.getElem?_set] at e
      simp at e
      exact e.2.symm
    · rw [List.getElem?_set_ne z] at e
      exact unE_in ((List.mem_cons.mp h).resolve_left (fun k => z k.symm)) e
theorem own_unE {i : Nat} {vs : List Nat} (h : own (unE ρ vs) i) : own ρ i ∧ i ∉ vs := by
  by_cases m : i ∈ vs
  · rcases h with ⟨_, _, h⟩ | ⟨_, _, h⟩
    · cases unE_in m h
    · cases unE_in m h
  · refine ⟨?_, m⟩
    rcases h with ⟨_, _, h⟩ | ⟨_, _, h⟩
    · rw [unE_out m] at h; exact .inl ⟨_, _, h⟩
    · rw [unE_out m] at h; exact .inr ⟨_, _, h⟩
theorem Rs.unAt {vs : List Nat} (R : Rs c F σ H ρ) (a : ∀ i, i ∉ vs → σ'[i]? = σ[i]?) (l : σ'.length = σ.length) : Rs c F σ' H (unE ρ vs) := by
  refine ⟨by rw [unE_len, l]; exact R.len, R.up, R.up0, R.fr, R.nw, R.ioH, R.io0, R.pr, fun i s hs => ?_, fun i j q oi oj ei ej => ?_⟩
  · by_cases m : i ∈ vs
    · rw [unE_in m hs]; trivial
    · rw [unE_out m] at hs
      have e := a i m
      have r := R.sl i s hs
      cases s with
      | un => trivial
      | tr d => obtain ⟨v, e2, r⟩ := r; exact ⟨v, by rw [e]; exact e2, r⟩
      | ol o ds => obtain ⟨q, vs, e2, r⟩ := r; exact ⟨q, vs, by rw [e]; exact e2, r⟩
      | od b es => obtain ⟨q, e2, r⟩ := r; exact ⟨q, by rw [e]; exact e2, r⟩
  · obtain ⟨oi, mi⟩ := own_unE oi
    obtain ⟨oj, mj⟩ := own_unE oj
    rw [a i mi] at ei
    rw [a j mj] at ej
    exact R.dj i j q oi oj ei ej
theorem reE_len {ρ0 : Env} : ∀ vs : List Nat, (reE ρ0 ρ vs).length = ρ.length
  | [] => rfl
  | v :: vs => by rw [reE, List.length_set, reE_len vs]
theorem reE_out {ρ0 : Env} {i : Nat} : ∀ {vs : List Nat}, i ∉ vs → (reE ρ0 ρ vs)[i]? = ρ[i]?
  | [], _ => rfl
  | v :: vs, h => by
    rw [reE, List.getElem?_set_ne (fun z => h (by rw [z]; exact List.mem_cons_self)), reE_out fun z => h (List.mem_cons_of_mem _ z)]
theorem reE_in {ρ0 : Env} {i : Nat} {s : Slot} : ∀ {vs : List Nat}, i ∈ vs → (reE ρ0 ρ vs)[i]? = some s → s = (ρ0[i]?).getD .un
  | v :: vs, h, e => by
    rw [reE] at e
    by_cases z : v = i
    · subst z
      rw [List.getElem?_set] at e
      simp at e
      exact e.2.symm
    · rw [List.getElem?_set_ne z] at e
      exact reE_in ((List.mem_cons.mp h).resolve_left (fun k => z k.symm)) e
theorem Rs.reAt {vs : List Nat} {H0 : Hp} {ρ0 : Env} (R : Rs c F σ' H ρ) (R0 : Rs c F1 σ H0 ρ0) (s : Same F1 F) (pl : vs.all (fun v => plainS ρ0[v]?) = true) (a : ∀ i, i ∉ vs → σ'[i]? = σ[i]?) (l : σ'.length = σ.length) : Rs c F σ H (reE ρ0 ρ vs) := by
  have no : ∀ {i}, own (reE ρ0 ρ vs) i → own ρ i ∧ i ∉ vs := fun {i} oi => by
    by_cases m : i ∈ vs
    · have z := List.all_eq_true.mp pl i m
      rcases oi with ⟨_, _, h⟩ | ⟨_, _, h⟩
      all_goals
        have e := reE_in m h
        cases q : ρ0[i]? with
        | none => rw [q] at e; cases e
        | some s => rw [q] at e z; simp at e; subst e; simp [plainS] at z
    · refine ⟨?_, m⟩
      rcases oi with ⟨_, _, h⟩ | ⟨_, _, h⟩
      · rw [reE_out m] at h; exact .inl ⟨_, _, h⟩
      · rw [reE_out m] at h; exact .inr ⟨_, _, h⟩
  refine ⟨by rw [reE_len, ← l]; exact R.len, R.up, R.up0, R.fr, R.nw, R.ioH, R.io0, R.pr, fun i sl hs => ?_, fun i j q oi oj ei ej => ?_⟩
  · by_cases m : i ∈ vs
    · have e := reE_in m hs
      have z := List.all_eq_true.mp pl i m
      cases q : ρ0[i]? with
      | none => rw [q] at e; simp at e; subst e; trivial
      | some s0 =>
        rw [q] at e z
        simp at e
        subst e
        cases sl with
        | un => trivial
        | tr d => obtain ⟨v, e, r⟩ := R0.sl i _ q; exact ⟨v, e, r.up s⟩
        | ol _ _ => simp [plainS] at z
        | od _ _ => simp [plainS] at z
    · rw [reE_out m] at hs
      have e := a i m
      have r := R.sl i sl hs
      cases sl with
      | un => trivial
      | tr d => obtain ⟨v, e2, r⟩ := r; exact ⟨v, by rw [← e]; exact e2, r⟩
      | ol o ds => obtain ⟨q, vs, e2, r⟩ := r; exact ⟨q, vs, by rw [← e]; exact e2, r⟩
      | od b es => obtain ⟨q, e2, r⟩ := r; exact ⟨q, by rw [← e]; exact e2, r⟩
  · obtain ⟨oi, mi⟩ := no oi
    obtain ⟨oj, mj⟩ := no oj
    rw [← a i mi] at ei
    rw [← a j mj] at ej
    exact R.dj i j q oi oj ei ej
/-- the context that keeps q as it is -/
abbrev Ctx.keep (c : Ctx K mg) (q : Addr) (o : HO) : Ctx K mg := { c with P := upd c.P q o }
theorem Rs.keep (R : Rs c F σ H ρ) (h : H q = some o) (n : F q = none) (no : ∀ i, own ρ i → σ[i]? ≠ some (some (.ref q))) : Rs (c.keep q o) F σ H ρ := by
  refine ⟨R.len, R.up, R.up0, R.fr, R.nw, R.ioH, R.io0, fun b ob hb => ?_, fun i s hs => ?_, R.dj⟩
  · by_cases e : b = q
    · subst e
      have hb : upd c.P b o b = some ob := hb
      rw [upd_same] at hb; cases hb
      exact ⟨h, n⟩
    · have hb : upd c.P q o b = some ob := hb
      rw [upd_ne e] at hb
      exact R.pr b ob hb
  · have r := R.sl i s hs
    cases s with
    | un => trivial
    | tr d => exact r
    | ol o2 ds =>
      obtain ⟨b, vs, e, n2, h2, r, w⟩ := r
      have ne : b ≠ q := fun z => no i (.inl ⟨_, _, hs⟩) (by rw [e, z])
      have w2 : upd c.P q o b = c.P b := upd_ne ne
      refine ⟨b, vs, e, n2, h2, r, ?_⟩
      cases o2 with
      | true => exact ⟨w.1, w2.trans w.2⟩
      | false => exact ⟨w.1, w2.trans w.2⟩
    | od b2 es =>
      obtain ⟨b, e, n2, w, dc⟩ := r
      have ne : b ≠ q := fun z => no i (.inr ⟨_, _, hs⟩) (by rw [e, z])
      have w2 : upd c.P q o b = c.P b := upd_ne ne
      exact ⟨b, e, n2, ⟨w.1, w2.trans w.2⟩, dc⟩
theorem unkeep {b : Addr} (h : upd c.P q o b = none) : c.P b = none ∧ b ≠ q := by
  by_cases e : b = q
  · subst e; rw [upd_same] at h; cases h
  · rw [upd_ne e] at h; exact ⟨h, e⟩
theorem Rs.unkeep (R : Rs (c.keep q o) F σ H ρ) (nP : c.P q = none) : Rs c F σ H ρ ∧ H q = some o ∧ F q = none ∧ ∀ i, own ρ i → σ[i]? ≠ some (some (.ref q)) := by
  obtain ⟨hq, nq⟩ := R.pr q o upd_same
  have no : ∀ i, own ρ i → σ[i]? ≠ some (some (.ref q)) := fun i oi e => by
    rcases oi with ⟨o2, ds, h⟩ | ⟨b2, es, h⟩
    · obtain ⟨b, vs, e2, n2, h2, r, w⟩ := R.sl i _ h
      rw [e] at e2; cases e2
      have w : upd c.P q o q = none := by
        cases o2 with
        | true => exact w.2
        | false => exact w.2
      rw [upd_same] at w; cases w
    · obtain ⟨b, e2, n2, w, dc⟩ := R.sl i _ h
      rw [e] at e2; cases e2
      have w : upd c.P q o q = none := w.2
      rw [upd_same] at w; cases w
  refine ⟨⟨R.len, R.up, R.up0, R.fr, R.nw, R.ioH, R.io0, fun b ob hb => R.pr b ob (show upd c.P q o b = some ob by rw [upd_ne (fun z => by rw [z, nP] at hb; cases hb)]; exact hb), fun i s hs => ?_, R.dj⟩, hq, nq, no⟩
  have r := R.sl i s hs
  cases s with
  | un => trivial
  | tr d => exact r
  | ol o2 ds =>
    obtain ⟨b, vs, e, n2, h2, r, w⟩ := r
    refine ⟨b, vs, e, n2, h2, r, ?_⟩
    cases o2 with
    | true => exact ⟨w.1, (Dx.unkeep w.2).1⟩
    | false => exact ⟨w.1, (Dx.unkeep w.2).1⟩
  | od b2 es =>
    obtain ⟨b, e, n2, w, dc⟩ := r
    exact ⟨b, e, n2, ⟨w.1, (Dx.unkeep w.2).1⟩, dc⟩
/-- an object that nobody tells of changes -/
theorem Rs.touch {o' : HO} (R : Rs c F σ H ρ) (n : F q = none) (f : Fresh c q) (nio : some q ≠ c.io) (no : ∀ i, own ρ i → σ[i]? ≠ some (some (.ref q))) : Rs c F σ (upd H q o') ρ := by
  have k : ∀ {b ob}, b ≠ q → H b = some ob → upd H q o' b = some ob := fun {b ob} e h => by rw [upd_ne e]; exact h
  refine ⟨R.len, fun b ob h => k (fun z => by rw [z, n] at h; cases h) (R.up _ _ h), R.up0, fun b ob h e => k (fun z => by rw [z, f.1] at h; cases h) (R.fr b ob h e), R.nw, fun b e z => R.ioH b e (f_upd z), R.io0, fun b ob h => ⟨k (fun z => by rw [z, f.2] at h; cases h) (R.pr b ob h).1, (R.pr b ob h).2⟩, fun i s hs => ?_, R.dj⟩
  have r := R.sl i s hs
  cases s with
  | un => trivial
  | tr d => exact r
  | ol o ds =>
    obtain ⟨b, vs, e, n, h, r, w⟩ := r
    exact ⟨b, vs, e, n, k (fun z => no i (.inl ⟨_, _, hs⟩) (by rw [e, z])) h, r, w⟩
  | od b es =>
    obtain ⟨b2, e, n, h0, dc⟩ := r
    have ne : b2 ≠ q := fun z => no i (.inr ⟨_, _, hs⟩) (by rw [e, z])
    refine ⟨b2, e, n, h0, ?_⟩
    rcases dc with ⟨e, kvs, h, r⟩ | ⟨e, kvs, h, r⟩
    · exact .inl ⟨e, kvs, k ne h, r⟩
    · exact .inr ⟨e, kvs, k ne h, r⟩
theorem wipe_eq {σ2 : L2.St} : ∀ {vs : List Nat}, σ2.length = σ.length → (∀ i, i ∉ vs → σ2[i]? = (wipe σ vs)[i]?) → wipe σ2 vs = wipe σ vs := by
  intro vs l a
  refine List.ext_getElem? fun i => ?_
  by_cases m : i ∈ vs
  · have none_in : ∀ {τ : L2.St} {ws : List Nat}, i ∈ ws → i < τ.length → (wipe τ ws)[i]? = some none := by
      intro τ ws
      induction ws with
      | nil => intro h; cases h
      | cons v ws ih =>
        intro h hl
        rw [wipe]
        by_cases z : v = i
        · subst z; rw [List.getElem?_set_self (by rw [wipe_length]; exact hl)]
        · rw [List.getElem?_set_ne z]; exact ih ((List.mem_cons.mp h).resolve_left fun k => z k.symm) hl
    by_cases hl : i < σ2.length
    · rw [none_in m hl, none_in m (by omega)]
    · rw [List.getElem?_eq_none (by rw [wipe_length]; omega), List.getElem?_eq_none (by rw [wipe_length]; omega)]
  · rw [← a i m]
    have out : ∀ {τ : L2.St} {ws : List Nat}, i ∉ ws → (wipe τ ws)[i]? = τ[i]? := by
      intro τ ws
      induction ws with
      | nil => intro _; rfl
      | cons v ws ih =>
        intro h
        rw [wipe, List.getElem?_set_ne (fun z => h (by rw [z]; exact List.mem_cons_self))]
        exact ih fun z => h (List.mem_cons_of_mem _ z)
    exact out m
theorem wipe_off {vs : List Nat} {i : Nat} (m : i ∉ vs) : (wipe σ vs)[i]? = σ[i]? := by
  induction vs with
  | nil => rfl
  | cons v ws ih => rw [wipe, List.getElem?_set_ne (fun z => m (by rw [z]; exact List.mem_cons_self))]; exact ih fun z => m (List.mem_cons_of_mem _ z)
theorem Pst.noX {α : Type} {z : Z α} {k : α → Env → Prop} {wy : WX} (h : Pst c wx F σ (noX z) k) : Pst c wy F σ z k := by
  cases z with
  | ok a ρ => exact h
  | ex _ _ _ => exact h.elim
  | bad => exact h.elim
theorem Pst.noX' {α β : Type} {z : Z α} {k : α → Env → Z β} {q : β → Env → Prop} {c' : Ctx K mg} (h : Pst c wx F σ ((Dx.noX z).bind k) q) : Pst c' WF F1 σ' z fun a ρ => Pst c wx F σ (k a ρ) q := by
  cases z with
  | ok a ρ => exact h
  | ex _ _ _ => exact h.elim
  | bad => exact h.elim
theorem lift_lc {vs ns : List Nat} {s : IM} {g : GM} {t : TM} {e : EM} (hns : ∀ i ∈ ns, i ∈ vs) (σ : L2.St) (H : Hp) (Q : VK) (h : liftE c wx (E.lc vs s g t e) σ H Q) : tLc (liftI c wx s) (liftG' K mg ns g) (liftT' K mg t) (liftE' K mg e) vs σ H Q := by
  obtain ⟨F, ρ, R, p⟩ := h
  refine ⟨F, ρ, R, p.bnd.im fun ds ρ1 p J F1 H1 s1 R1 st A nA => ?_⟩
  by_cases cond : ds.length ≤ 16000000 ∧ vs.all (fun v => plainS ρ1[v]?) = true
  rotate_left
  · rw [if_neg cond] at p; exact p.elim
  rw [if_pos cond] at p
  obtain ⟨hz, pl⟩ := cond
  have nF1 : F1 A = none := R1.up.free nA
  have fA : Fresh c A := R1.none0 nA
  have nio : some A ≠ c.io := R1.noio nA
  have p := Pst.up s1 (Pst.bnd p) fun (a : List D) ρ2 k => (show ∀ x F' H', Same F1 F' → Rs c F' σ H' (reE ρ1 ρ2 vs) → RdW c F' σ H' (reE ρ1 ρ2 vs) x (.f a) → Q x H' from fun x F' H' s => k x F' H' (s1.trans s))
  refine ⟨fun i m H' => m = ds.length - i ∧ i ≤ ds.length ∧ ∃ F' ρ' acc dacc, Same F1 F' ∧ Rs c F' (wipe σ vs) H' ρ' ∧ F' A = none ∧ H' A = some (.lst acc) ∧ RdL K mg F' acc dacc ∧ acc.length ≤ i ∧ (∀ i, own ρ' i → (wipe σ vs)[i]? ≠ some (some (.ref A))) ∧
    Pst c wx F' σ (lcR vs g t e (ds.drop i) ρ') fun ys ρ2 => ∀ x F'' H', Same F' F'' → Rs c F'' σ H' (reE ρ1 ρ2 vs) → RdW c F'' σ H' (reE ρ1 ρ2 vs) x (.f (dacc ++ ys)) → Q x H', ⟨ds.length, by simp, Nat.zero_le _, F1, unE ρ1 vs, [], [], Same.refl F1,
      (R1.alloc nA).unAt (fun i m => wipe_off m) (wipe_length σ vs), nF1, upd_same, .nil, Nat.le_refl _, fun i oi => ?_, ?_⟩, ?_⟩
  · obtain ⟨oi, mi⟩ := own_unE oi
    rw [wipe_off mi]
    exact R1.notOwn nA i oi
  · exact p.im fun ys ρ2 k x F' H' s' R' r' => k x F' H' s' R' r'
  rintro i m H' ⟨rfl, hi, F', ρ', acc, dacc, s', R', nA', hA, ra, la, no, p'⟩
  obtain ⟨go, stop⟩ := st i F' H' s' R'.up
  by_cases hl : i < ds.length
  · obtain ⟨g1, g2⟩ := go hl
    have ed : ds[i]? = some ds[i] := List.getElem?_eq_getElem hl
    rw [List.drop_eq_getElem_cons hl] at p'
    generalize ds[i] = d at ed p'
    refine .inr ⟨g1, fun H2 => ∃ F2 ρ2 acc2 dacc2, Same F1 F2 ∧ Rs c F2 (wipe σ vs) H2 ρ2 ∧ F2 A = none ∧ H2 A = some (.lst acc2) ∧ RdL K mg F2 acc2 dacc2 ∧ acc2.length ≤ i + 1 ∧ (∀ i, own ρ2 i → (wipe σ vs)[i]? ≠ some (some (.ref A))) ∧
        Pst c wx F2 σ (lcR vs g t e (ds.drop (i + 1)) ρ2) fun ys ρ2 => ∀ x F'' H', Same F2 F'' → Rs c F'' σ H' (reE ρ1 ρ2 vs) → RdW c F'' σ H' (reE ρ1 ρ2 vs) x (.f (dacc2 ++ ys)) → Q x H',
      fun H2 w => ⟨ds.length - (i + 1), by omega, rfl, hl, w⟩, fun x H2 y => ?_⟩
    obtain ⟨F2, a, rd⟩ := g2 x H2 y
    dsimp only [lcR] at p'
    have Rk : Rs (c.keep A (.lst acc)) F2 (wipe σ vs) H2 ρ' := (R'.keep hA nA' no).adv a
    refine ⟨c.keep A (.lst acc), F2, ρ', d, Rk, rd d ed, ?_⟩
    cases eg : g d ρ' with
    | none => rw [eg] at p'; exact p'.elim
    | some ρ2 =>
      rw [eg] at p'
      dsimp only [onL] at p'
      refine fun σ3 F3 H3 s3 R3 off l3 => ⟨wipe_eq (by rw [l3, wipe_length]) fun j mj => off j fun z => mj (hns j z), c.keep A (.lst acc), F3, ρ2, R3, (Pst.noX' p').im fun b ρ3 p3 F4 H4 s4 R4 => ?_⟩
      replace a := a.ff.trans s3
      have lσ : (wipe σ vs).length = σ3.length := l3.symm
      have sF : Same F1 F4 := (s'.trans a).trans s4
      have offv : ∀ j, j ∉ vs → (wipe σ vs)[j]? = σ3[j]? := fun j mj => (off j fun z => mj (hns j z)).symm
      cases b with
      | false =>
        refine iteF ?_
        obtain ⟨R5, hA5, nA5, no5⟩ := R4.unkeep fA.2
        refine ⟨F4, unE ρ3 vs, acc, dacc, sF, R5.unAt offv lσ, nA5, hA5, ra.up (a.trans s4), by omega, fun j oj => ?_, Pst.up (a.trans s4) p3 fun ys ρ6 k x F' H' s6 => k x F' H' ((a.trans s4).trans s6)⟩
        obtain ⟨oj, mj⟩ := own_unE oj
        rw [offv j mj]
        exact no5 j oj
      | true =>
        refine iteT ⟨c.keep A (.lst acc), F4, ρ3, R4, (Pst.noX' p3).im fun w ρ4 p4 y F5 H5 s5 R5 r5 => ?_⟩
        have p4 : Pst c wx F' σ ((fz w ρ4).bind fun y ρ4 => (lcR vs g t e (ds.drop (i + 1)) (unE ρ4 vs)).bind fun ys ρ5 => .ok (y :: ys) ρ5) _ := p4
        cases ef : fz w ρ4 with
        | bad => rw [ef] at p4; exact p4.elim
        | ex _ _ _ => exact absurd ef fz_ne
        | ok dy ρ5 =>
          rw [ef] at p4
          obtain ⟨F6, s6, R6, r6⟩ := fz_ok R5 r5 ef
          obtain ⟨R7, hA7, nA7, no7⟩ := R6.unkeep fA.2
          have sF6 : Same F' F6 := ((a.trans s4).trans s5).trans s6
          refine ⟨acc, hA7, by rw [sizeLine_eq]; omega, F6, unE ρ5 vs, acc ++ [y], dacc ++ [dy], (sF.trans s5).trans s6, (R7.touch nA7 fA nio no7).unAt offv lσ, nA7, upd_same, (ra.up sF6).app (.one r6), by rw [List.length_append]; simp; omega, fun j oj => ?_, ?_⟩
          · obtain ⟨oj, mj⟩ := own_unE oj
            rw [offv j mj]
            exact no7 j oj
          · refine Pst.up sF6 (Pst.bnd p4) fun ys ρ6 k x F' H' s6 R' r' => ?_
            refine k x F' H' (sF6.trans s6) R' ?_
            rw [List.append_assoc] at r'
            exact r'
  · have e : i = ds.length := by omega
    subst e
    rw [List.drop_length] at p'
    refine .inl ⟨stop rfl, p' _ F' H' (Same.refl _) (R'.reAt R1 s' pl (fun j mj => wipe_off mj) (wipe_length σ vs)) ⟨A, acc, rfl, nA', fA, hA, by rw [List.append_nil]; exact ra, nio, fun j oj ej => ?_⟩⟩
    have Rf := R'.reAt R1 s' pl (fun j mj => wipe_off mj) (wipe_length σ vs)
    by_cases mj : j ∈ vs
    · have z := List.all_eq_true.mp pl j mj
      rcases oj with ⟨_, _, h⟩ | ⟨_, _, h⟩
      all_goals
        have e := reE_in mj h
        cases q : ρ1[j]? with
        | none => rw [q] at e; cases e
        | some s => rw [q] at e z; simp at e; subst e; simp [plainS] at z
    · refine no j ?_ (by rw [wipe_off mj]; exact ej)
      rcases oj with ⟨_, _, h⟩ | ⟨_, _, h⟩
      · rw [reE_out mj] at h; exact .inl ⟨_, _, h⟩
      · rw [reE_out mj] at h; exact .inr ⟨_, _, h⟩
theorem pd_lc {X : Cx} {ex : Expr} {vs ns : List Nat} {s : IM} {g : GM} {t : TM} {e : EM} (h : PE X ex (tLc (liftI c wx s) (liftG' K mg ns g) (liftT' K mg t) (liftE' K mg e) vs)) (hns : ∀ i ∈ ns, i ∈ vs := by decide) : PE X ex (liftE c wx (E.lc vs s g t e)) := pd_of h (lift_lc hns)
theorem pd_setLc {X : Cx} {st : Stmt} {i : Nat} {vs ns : List Nat} {s : IM} {g : GM} {t : TM} {e : EM} (h : PS X st (tAsg (tLc (liftI c wx s) (liftG' K mg ns g) (liftT' K mg t) (liftE' K mg e) vs) (gName i))) (hns : ∀ i ∈ ns, i ∈ vs := by decide) : PS X st (liftS c wx (S.set i (E.lc vs s g t e))) :=
  psI h fun D σ H q => lift_lc hns σ H _ (lift_set D σ H q)
end
end Dx

namespace Dx
open PySem PySem.Spec PyProof.Rows L2 Hx
/-! ## an own list changed -/
abbrev LM := List D → List D → Option (D × List D)
namespace LM
def append : LM
  | ds, [e] => if ds.length < 16000000 then some (.non, ds ++ [e]) else none
  | _, _ => none
def popO (ds : List D) : Option D → Option (D × List D)
  | some d => some (d, ds.dropLast)
  | none => none
def pop : LM
  | ds, [] => popO ds ds[ds.length - 1]?
  | _, _ :: _ => none
def popAt : LM
  | ds, [.int i] => if 0 ≤ i ∧ i < ds.length ∧ i < 2 ^ 63 then (ds[i.toNat]?).map fun d => (d, ds.eraseIdx i.toNat) else none
  | _, _ => none
def insert : LM
  | ds, [.int i, e] => if 0 ≤ i ∧ i < 2 ^ 63 ∧ ds.length < 16000000 then some (.non, ds.take i.toNat ++ [e] ++ ds.drop i.toNat) else none
  | _, _ => none
end LM
namespace E
def lmO (i : Nat) (o : Bool) : Option (D × List D) → Env → Z W
  | some (d, zs), ρ => .ok (.t d) (ρ.set i (.ol o zs))
  | none, _ => .bad
def lmR (f : LM) (ds : List D) (i : Nat) : Option Slot → Env → Z W
  | some (.ol o zs), ρ => lmO i o (f zs ds) ρ
  | _, _ => .bad
@[simp] def lm (f : LM) (i : Nat) (a : AM) (ρ : Env) : Z W := if isOl ρ[i]? = true then (a ρ).bind fun ws ρ1 => (fzs ws ρ1).bind fun ds ρ2 => lmR f ds i ρ2[i]? ρ2 else .bad
def extO (i j : Nat) (o : Bool) (zs : List D) : Option Slot → Env → Z W
  | some (.ol _ es), ρ => if j = i then .bad else if zs.length + es.length ≤ 16000000 then .ok (.t .non) (ρ.set i (.ol o (zs ++ es))) else .bad
  | _, _ => .bad
def extR (i : Nat) : Option Slot → W → Env → Z W
  | some (.ol o zs), .f es, ρ => if zs.length + es.length ≤ 16000000 then .ok (.t .non) (ρ.set i (.ol o (zs ++ es))) else .bad
  | some (.ol o zs), .o j, ρ => extO i j o zs ρ[j]? ρ
  | _, _, _ => .bad
/-- x.extend(y): y's items now -/
@[simp] def ext (i : Nat) (a : EM) (ρ : Env) : Z W := if isOl ρ[i]? = true then (a ρ).bind fun w ρ1 => extR i ρ1[i]? w ρ1 else .bad
end E
def setiR (i : Nat) (d : D) : Option D → Option Slot → Env → Z Sig
  | some (.int k), some (.ol o zs), ρ => if 0 ≤ k ∧ k < zs.length then .ok .nx (ρ.set i (.ol o (zs.set k.toNat d))) else .bad
  | _, _, _ => .bad
/-- x[k] = e -/
@[simp] def S.seti (i : Nat) (ik e : EM) (ρ : Env) : Z Sig := (e ρ).bind fun w ρ1 => (fz w ρ1).bind fun d ρ2 => if E.isOl ρ2[i]? = true then (ik ρ2).bind fun wk ρ3 => setiR i d (pk wk.st ρ3) ρ3[i]? ρ3 else .bad
def LmD (K : PySem.W.Frag) (mg : Str → Option Value) (r : V → List V → Hp → VK → Prop) (f : LM) : Prop :=
  ∀ F H p vs zs xs ds d zs' Q, F p = none → H p = some (.lst vs) → RdL K mg F vs zs → RdL K mg F xs ds → f zs ds = some (d, zs') → (∀ v vs', Rd K mg F v d → RdL K mg F vs' zs' → Q v (upd H p (.lst vs'))) → r (.ref p) xs H Q
section
variable {K : PySem.W.Frag} {mg : Str → Option Value} {c : Ctx K mg} {wx : WX} {X : Cx} {e : Expr} {st : Stmt} {mas : AM} {me mk : EM}
theorem isOl_ok {s : Option Slot} (h : E.isOl s = true) : ∃ o zs, s = some (.ol o zs) := by
  cases s with
  | none => cases h
  | some s => cases s <;> first | exact ⟨_, _, rfl⟩ | cases h
theorem AdvI.put {F H : Hp} {p : Addr} {o : HO} (u : Same F H) (n : F p = none) : AdvI p F H F (upd H p o) :=
  ⟨Same.refl F, fun q ob ne h => by rw [upd_ne ne]; exact h, fun b ob h => by rw [upd_ne (fun z => by rw [z, n] at h; cases h)]; exact u _ _ h, fun q h n => absurd n h⟩
theorem lift_lm {r : V → List V → Hp → VK → Prop} {f : LM} {i : Nat} (hf : LmD K mg r f) (σ : L2.St) (H : Hp) (Q : VK) (h : liftE c wx (E.lm f i mas) σ H Q) : tBM K "list" r (tVar i) (liftA c wx mas) σ H Q := by
  obtain ⟨F, ρ, R, p⟩ := h
  dsimp only [E.lm] at p
  by_cases oi : E.isOl ρ[i]? = true
  · rw [if_pos oi] at p
    obtain ⟨o, zs, hi⟩ := isOl_ok oi
    obtain ⟨q, vs, e, nq, hq, rq, w⟩ := R.sl i _ hi
    refine ⟨_, e, .inl ⟨rfl, vs, sq_of hq⟩, liftA_fz ⟨F, ρ, R, p, fun ds ρ2 xs F2 H2 s2 R2 r2 p => ?_⟩⟩
    cases hi2 : ρ2[i]? with
    | none => rw [hi2] at p; exact p.elim
    | some s2' =>
      rw [hi2] at p
      cases s2' with
      | ol o2 zs2 =>
        dsimp only [E.lmR] at p
        obtain ⟨q2, vs2, e2, nq2, hq2, rq2, w2⟩ := R2.sl i _ hi2
        rw [e] at e2; cases e2
        cases ef : f zs2 ds with
        | none => rw [ef] at p; exact p.elim
        | some pr =>
          rw [ef] at p
          obtain ⟨d, zs'⟩ := pr
          exact hf F2 H2 q vs2 zs2 xs ds d zs' Q nq2 hq2 rq2 r2 ef fun v vs' rv rvs => p v F2 _ s2 (R2.advI hi2 e (.put R2.up nq2) upd_same rvs) rv
      | _ => exact p.elim
  · rw [if_neg oi] at p; exact p.elim
theorem pd_lm {r : V → List V → Hp → VK → Prop} {f : LM} {i : Nat} (hf : LmD K mg r f) (h : PE X e (tBM K "list" r (tVar i) (liftA c wx mas))) : PE X e (liftE c wx (E.lm f i mas)) := pd_of h (lift_lm hf)
theorem lift_lm0 {r : V → List V → Hp → VK → Prop} {f : LM} {i : Nat} (hf : LmD K mg r f) (σ : L2.St) (H : Hp) (Q : VK) (h : liftE c wx (E.lm f i A.nil) σ H Q) : tBM0 K "list" r (tVar i) σ H Q := by
  obtain ⟨x, e, t, F, ρ, R, p⟩ := lift_lm (mas := A.nil) hf σ H Q h
  exact ⟨x, e, t, p [] F H (Same.refl F) R .nil⟩
theorem pd_lm0 {r : V → List V → Hp → VK → Prop} {f : LM} {i : Nat} (hf : LmD K mg r f) (h : PE X e (tBM0 K "list" r (tVar i))) : PE X e (liftE c wx (E.lm f i A.nil)) := pd_of h (lift_lm0 hf)
theorem lm_append : LmD K mg rAppend LM.append := by
  intro F H p vs zs xs ds d zs' Q n h rz rd e q
  match ds, rd, e with
  | [d0], .cons r0 .nil, e =>
    dsimp only [LM.append] at e
    by_cases l : zs.length < 16000000
    · rw [if_pos l] at e
      cases e
      exact ⟨p, vs, _, rfl, rfl, h, by rw [rz.len, sizeLine_eq]; omega, q _ _ .non (rz.app (.one r0))⟩
    · rw [if_neg l] at e; cases e
theorem RdL.dropL {F : Hp} {vs : List V} {ds : List D} (h : RdL K mg F vs ds) : RdL K mg F vs.dropLast ds.dropLast := by
  rw [List.dropLast_eq_take, List.dropLast_eq_take, h.len]
  exact h.takeD _
theorem lm_pop : LmD K mg rPop LM.pop := by
  intro F H p vs zs xs ds d zs' Q n h rz rd e q
  cases rd with
  | cons _ _ => cases e
  | nil =>
    dsimp only [LM.pop] at e
    cases ez : zs[zs.length - 1]? with
    | none => rw [ez] at e; cases e
    | some d0 =>
      rw [ez] at e
      cases e
      obtain ⟨v, ev, rv⟩ := rz.get ez
      exact ⟨p, vs, v, rfl, rfl, h, by rw [rz.len]; exact ev, q _ _ rv rz.dropL⟩
theorem RdL.erase {F : Hp} : ∀ {vs : List V} {ds : List D} (n : Nat), RdL K mg F vs ds → RdL K mg F (vs.eraseIdx n) (ds.eraseIdx n)
  | _, _, _, .nil => .nil
  | _, _, 0, .cons _ r => r
  | _, _, n + 1, .cons h r => .cons h (RdL.erase n r)
theorem lm_popAt : LmD K mg rPopAt LM.popAt := by
  intro F H p vs zs xs ds d zs' Q n h rz rd e q
  match ds, rd, e with
  | [.int i], .cons r0 .nil, e =>
    cases r0.inv_int
    dsimp only [LM.popAt, LM.insert] at e
    by_cases l : 0 ≤ i ∧ i < zs.length ∧ i < 2 ^ 63
    · rw [if_pos l] at e
      cases ez : zs[i.toNat]? with
      | none => rw [ez] at e; cases e
      | some d0 =>
        rw [ez] at e
        cases e
        obtain ⟨v, ev, rv⟩ := rz.get ez
        refine ⟨p, vs, i, i.toNat, v, rfl, rfl, h, by omega, l.2.2, ?_, ev, q _ _ rv (rz.erase _)⟩
        have := rz.len
        unfold seqIndex?
        simp only []
        rw [if_neg (show ¬ i < 0 by omega), if_pos (by simp; omega)]
    · rw [if_neg l] at e; cases e
theorem lm_insert : LmD K mg (fun x vs H Q => ∃ (l : Addr) (xs : List V) (i : Int) (y : V), x = .ref l ∧ vs = [.int i, y] ∧ H l = some (.lst xs) ∧ xs.length < sizeLine ∧ 0 ≤ i ∧ i < 2 ^ 63 ∧ Q .non (upd H l (.lst (xs.take i.toNat ++ [y] ++ xs.drop i.toNat)))) LM.insert := by
  intro F H p vs zs xs ds d zs' Q n h rz rd e q
  match ds, rd, e with
  | [.int i, d0], .cons r0 (.cons r1 .nil), e =>
    cases r0.inv_int
    dsimp only [LM.popAt, LM.insert] at e
    by_cases l : 0 ≤ i ∧ i < 2 ^ 63 ∧ zs.length < 16000000
    · rw [if_pos l] at e
      cases e
      exact ⟨p, vs, i, _, rfl, rfl, h, by rw [rz.len, sizeLine_eq]; omega, l.1, l.2.1, q _ _ .non (((rz.takeD _).app (.one r1)).app (rz.dropD _))⟩
    · rw [if_neg l] at e; cases e
theorem lift_ext {i : Nat} (σ : L2.St) (H : Hp) (Q : VK) (h : liftE c wx (E.ext i me) σ H Q) : tBM K "list" rExtend (tVar i) (tCons (liftE c wx me) tNil) σ H Q := by
  obtain ⟨F, ρ, R, p⟩ := h
  dsimp only [E.ext] at p
  by_cases oi : E.isOl ρ[i]? = true
  · rw [if_pos oi] at p
    obtain ⟨o, zs, hi⟩ := isOl_ok oi
    obtain ⟨q, vs, e, nq, hq, rq, w⟩ := R.sl i _ hi
    refine ⟨_, e, .inl ⟨rfl, vs, sq_of hq⟩, F, ρ, R, (Pst.bnd p).im fun w1 ρ1 p x F1 H1 s1 R1 r1 => ?_⟩
    cases hi2 : ρ1[i]? with
    | none => rw [hi2] at p; exact p.elim
    | some s2' =>
      rw [hi2] at p
      cases s2' with
      | ol o2 zs2 =>
        obtain ⟨q2, vs2, e2, nq2, hq2, rq2, w2⟩ := R1.sl i _ hi2
        rw [e] at e2; cases e2
        cases w1 with
        | f es =>
          dsimp only [E.extR] at p
          by_cases l : zs2.length + es.length ≤ 16000000
          · rw [if_pos l] at p
            obtain ⟨b, ws, rfl, n, h0, hb, rb, nio, no⟩ := r1
            refine ⟨q, b, vs2, ws, rfl, rfl, hq2, hb, by rw [rq2.len, rb.len, sizeLine_eq]; omega, ?_⟩
            exact p .non F1 _ s1 (R1.advI hi2 e (.put R1.up nq2) upd_same (rq2.app rb)) .non
          · rw [if_neg l] at p; exact p.elim
        | o j =>
          dsimp only [E.extR] at p
          obtain ⟨b, rfl, eb⟩ := r1
          cases hj : ρ1[j]? with
          | none => rw [hj] at p; exact p.elim
          | some s3 =>
            rw [hj] at p
            cases s3 with
            | ol o3 es =>
              dsimp only [E.extO] at p
              by_cases ji : j = i
              · rw [if_pos ji] at p; exact p.elim
              rw [if_neg ji] at p
              by_cases l : zs2.length + es.length ≤ 16000000
              · rw [if_pos l] at p
                obtain ⟨b2, ws, eb2, n, hb, rb, _⟩ := R1.sl j _ hj
                rw [eb] at eb2; cases eb2
                refine ⟨q, b, vs2, ws, rfl, rfl, hq2, hb, by rw [rq2.len, rb.len, sizeLine_eq]; omega, ?_⟩
                exact p .non F1 _ s1 (R1.advI hi2 e (.put R1.up nq2) upd_same (rq2.app rb)) .non
              · rw [if_neg l] at p; exact p.elim
            | _ => exact p.elim
        | _ => exact p.elim
      | _ => exact p.elim
  · rw [if_neg oi] at p; exact p.elim
theorem pd_ext {i : Nat} (h : PE X e (tBM K "list" rExtend (tVar i) (tCons (liftE c wx me) tNil))) : PE X e (liftE c wx (E.ext i me)) := pd_of h lift_ext
theorem lift_seti {i : Nat} (Y : Ends) (σ : L2.St) (H : Hp) (h : liftS c wx (S.seti i mk me) Y σ H) : tAsg (liftE c wx me) (gSub (tVar i) (liftE c wx mk) rSetL) Y σ H := by
  obtain ⟨F, ρ, R, p⟩ := h
  refine ⟨F, ρ, R, p.bnd.im fun w ρ1 p x F1 H1 s1 R1 r1 => ?_⟩
  cases e : fz w ρ1 with
  | bad => rw [e] at p; exact p.elim
  | ex _ _ _ => exact absurd e fz_ne
  | ok d ρ2 =>
    rw [e] at p
    obtain ⟨F2, s2, R2, r2⟩ := fz_ok R1 r1 e
    dsimp only [Z.bind] at p
    by_cases oi : E.isOl ρ2[i]? = true
    · rw [if_pos oi] at p
      obtain ⟨o0, zs0, hi⟩ := isOl_ok oi
      obtain ⟨q, vs, e1, nq, hq, rq, w1⟩ := R2.sl i _ hi
      refine ⟨_, e1, F2, ρ2, R2, Pst.up (s1.trans s2) (Pst.bnd p) fun wk ρ3 p y F3 H3 s3 R3 r3 => ?_⟩
      obtain ⟨F4, s4, R4, r4⟩ := r3.toSt R3
      cases ek : pk wk.st ρ3 with
      | none => rw [ek] at p; exact p.elim
      | some dk =>
        rw [ek] at p
        cases dk with
        | int k =>
          cases hi3 : ρ3[i]? with
          | none => rw [hi3] at p; exact p.elim
          | some sl3 =>
            rw [hi3] at p
            cases sl3 with
            | ol o zs =>
              dsimp only [setiR] at p
              by_cases l : 0 ≤ k ∧ k < zs.length
              · rw [if_pos l] at p
                obtain ⟨q3, vs3, e3, nq3, hq3, rq3, w3⟩ := R4.sl i _ hi3
                rw [e1] at e3; cases e3
                have ey := (R4.pk r4 (by cases wk <;> rfl) ek).int
                subst ey
                refine ⟨q, vs3, k, k.toNat, rfl, rfl, hq3, ?_, ?_⟩
                · unfold ixN; rw [if_pos (by omega), if_pos (by rw [rq3.len]; omega)]
                · have sA := ((s1.trans s2).trans s3).trans s4
                  exact p σ F4 _ sA (R4.advI hi3 e1 (.put R4.up nq3) upd_same (rq3.setD _ (r2.up (s3.trans s4))))
              · rw [if_neg l] at p; exact p.elim
            | _ => exact p.elim
        | _ => exact p.elim
    · rw [if_neg oi] at p; exact p.elim
theorem pd_seti {i : Nat} (h : PS X st (tAsg (liftE c wx me) (gSub (tVar i) (liftE c wx mk) rSetL))) : PS X st (liftS c wx (S.seti i mk me)) := psI h lift_seti
end
/-! ## defs -/
def endP : Z Sig → Fr
  | .ok (.rt (.t d)) _ => .ok (.t d) []
  | .ok (.rt (.f ds)) _ => .ok (.f ds) []
  | .ok (.rt (.g b es)) _ => .ok (.g b es) []
  | .ok (.rt (.o _)) _ => .bad
  | .ok .nx _ => .ok (.t .non) []
  | .ok .bk _ => .bad
  | .ok .ct _ => .bad
  | .ex c fs _ => .ex c fs []
  | .bad => .bad
@[simp] def runP (k : Nat) (b : SM) : List D → Fr := fun ds => endP (b (ds.map .tr ++ List.replicate k .un))
def ioS (k : List D → Fr) : Option Slot → Fr
  | some (.ol true zs) => k zs
  | _ => .bad
@[simp] def ioOf (ρ : Env) (k : List D → Fr) : Fr := ioS k ρ[0]?
def endI : Z Sig → Fr
  | .ok (.rt (.t d)) ρ => ioOf ρ fun zs => .ok (.t d) zs
  | .ok (.rt (.f ds)) ρ => ioOf ρ fun zs => .ok (.f ds) zs
  | .ok (.rt (.g b es)) ρ => ioOf ρ fun zs => .ok (.g b es) zs
  | .ok (.rt (.o _)) _ => .bad
  | .ok .nx ρ => ioOf ρ fun zs => .ok (.t .non) zs
  | .ok .bk _ => .bad
  | .ok .ct _ => .bad
  | .ex c fs ρ => ioOf ρ fun zs => .ex c fs zs
  | .bad => .bad
@[simp] def runI (k : Nat) (b : SM) : List D → List D → Fr := fun io ds => endI (b (.ol true io :: (ds.map .tr ++ List.replicate k .un)))
def liftS' (K : PySem.W.Frag) (mg : Str → Option Value) (wx : WX) (b : SM) : TS := fun Y σ H => ∃ c : Ctx K mg, liftS c wx b Y σ H
section
variable {K : PySem.W.Frag} {mg : Str → Option Value}
theorem pssA {X : Cx} {ss : List Stmt} {wx : WX} {b : SM} (h : ∀ c : Ctx K mg, PSs X ss (liftS c wx b)) : PSs X ss (liftS' K mg wx b) := ⟨fun pins s σ H Y I ⟨c, q⟩ => (h c).run pins s σ H Y I q⟩
theorem start_len {N : List Str} {vs : List V} (h : vs.length ≤ N.length) : (start N vs).length = N.length := by
  unfold L2.start; rw [List.length_append, List.length_map, List.length_replicate]; omega
theorem start_at {N : List Str} {vs : List V} {i : Nat} {v : V} (h : vs[i]? = some v) : (start N vs)[i]? = some (some v) := by
  unfold L2.start
  have l : i < vs.length := (List.getElem?_eq_some_iff.mp h).1
  rw [List.getElem?_append_left (by rw [List.length_map]; exact l), List.getElem?_map, h]; rfl
theorem ep_trs {ds : List D} {k : Nat} {i : Nat} {s : Slot} (h : (ds.map Slot.tr ++ List.replicate k Slot.un)[i]? = some s) : s = .un ∨ ∃ d, ds[i]? = some d ∧ s = .tr d := by
  by_cases l : i < ds.length
  · rw [List.getElem?_append_left (by rw [List.length_map]; exact l), List.getElem?_map] at h
    cases e : ds[i]? with
    | none => rw [e] at h; cases h
    | some d => rw [e] at h; cases h; exact .inr ⟨d, rfl, rfl⟩
  · rw [List.getElem?_append_right (by rw [List.length_map]; omega)] at h
    exact .inl (List.mem_replicate.mp (List.mem_of_getElem? h)).2
theorem RdW.toR {c : Ctx K mg} {F' H' : Hp} {σ' : L2.St} {ρ' : Env} {x : V} {w : W} {H : Hp} (e : c.H0 = H) (no : ∀ i, w ≠ .o i) (r : RdW c F' σ' H' ρ' x w) : RdR K mg F' H H' x w := by
  subst e
  cases w with
  | t d => exact r
  | o i => exact absurd rfl (no i)
  | f ds => obtain ⟨q, vs, e, n, h0, h, r, _⟩ := r; exact ⟨q, vs, e, n, h0.1, h, r⟩
  | g b es => obtain ⟨q, e, n, h0, dc, _⟩ := r; exact ⟨q, e, n, h0.1, dc⟩
theorem runP_go {N : List Str} {n k : Nat} {b : SM} {vs : List V} {H : Hp} {Q : VK} {E : XK} (hN : N.length = n + k) (h : spP K mg n (runP k b) vs H Q E) :
    liftS' K mg (fun cls d _ H => E cls d H) b { nx := fun _ G => Q .non G, rt := Q } (start N vs) H := by
  obtain ⟨l, F, ds, u, r, p⟩ := h
  have ld : ds.length = n := by rw [← r.len]; exact l
  have R : Rs (K := K) (mg := mg) ⟨F, H, none, fun _ => none⟩ F (start N vs) H (ds.map Slot.tr ++ List.replicate k Slot.un) := by
    refine ⟨by rw [start_len (by omega), List.length_append, List.length_map, List.length_replicate]; omega, u, Same.refl F, fun q o h _ => h, fun q h n => absurd n h, fun q e => (by cases e), fun q e => (by cases e), fun q o h => (by cases h), fun i s hs => ?_, fun i j q oi _ _ _ => ?_⟩
    · rcases ep_trs hs with e | ⟨d, ed, e⟩
      · subst e; trivial
      · subst e
        obtain ⟨v, ev, rv⟩ := r.get ed
        exact ⟨v, start_at ev, rv⟩
    · rcases oi with ⟨_, _, h⟩ | ⟨_, _, h⟩
      · rcases ep_trs h with e | ⟨d, _, e⟩ <;> cases e
      · rcases ep_trs h with e | ⟨d, _, e⟩ <;> cases e
  refine ⟨⟨F, H, none, fun _ => none⟩, F, _, R, ?_⟩
  have adv : ∀ {F' H' : Hp} {σ' : L2.St} {ρ' : Env}, Rs (K := K) (mg := mg) ⟨F, H, none, fun _ => none⟩ F' σ' H' ρ' → Adv F H F' H' := fun R' => ⟨R'.up0, fun q o h => R'.fr q o h (by simp), R'.up, R'.nw⟩
  dsimp only [runP] at p
  cases e : b (ds.map Slot.tr ++ List.replicate k Slot.un) with
  | bad => rw [e] at p; exact p.elim
  | ex cn fs ρ' =>
    rw [e] at p
    exact fun C dd fsV F' H' σ' m s R' hd rf => p C dd fsV F' H' m (adv R') hd rf
  | ok sg ρ' =>
    rw [e] at p
    cases sg with
    | nx => exact fun σ' F' H' s R' => p .non F' H' (adv R') .non
    | bk => exact p.elim
    | ct => exact p.elim
    | rt w =>
      intro x σ' F' H' s R' r'
      cases w with
      | o i => exact p.elim
      | t d => exact p x F' H' (adv R') (r'.toR rfl (fun _ => nofun))
      | f zs => exact p x F' H' (adv R') (r'.toR rfl (fun _ => nofun))
      | g b es => exact p x F' H' (adv R') (r'.toR rfl (fun _ => nofun))
theorem runI_go {N : List Str} {n k : Nat} {b : SM} {vs : List V} {H : Hp} {Q : VK} {E : XK} (hN : N.length = n + 1 + k) (h : spI K mg n (runI k b) vs H Q E) :
    liftS' K mg (fun cls d _ H => E cls d H) b { nx := fun _ G => Q .non G, rt := Q } (start N vs) H := by
  obtain ⟨l, F, p, us, ios, zs, ds, rfl, u, nF, hp, rz, r, pp⟩ := h
  have ld : ds.length = n := by rw [← r.len]; simpa using l
  let c : Ctx K mg := ⟨F, H, some p, fun _ => none⟩
  have at0 : (start N (V.ref p :: us))[0]? = some (some (.ref p)) := start_at rfl
  have R : Rs c F (start N (V.ref p :: us)) H (Slot.ol true zs :: (ds.map Slot.tr ++ List.replicate k Slot.un)) := by
    refine ⟨by rw [start_len (by omega), List.length_cons, List.length_append, List.length_map, List.length_replicate]; omega, u, Same.refl F, fun q o h _ => h, fun q h n => absurd n h, fun q e n => ?_, fun q e n => ?_, fun q o h => (by cases h), fun i s hs => ?_, fun i j q oi oj _ _ => ?_⟩
    · cases e; rw [hp] at n; cases n
    · cases e; rw [show c.H0 p = H p from rfl, hp] at n; cases n
    · cases i with
      | zero => cases hs; exact ⟨p, ios, at0, nF, hp, rz, by simp; exact ⟨rfl, rfl⟩⟩
      | succ i =>
        rcases ep_trs hs with e | ⟨d, ed, e⟩
        · subst e; trivial
        · subst e
          obtain ⟨v, ev, rv⟩ := r.get ed
          exact ⟨v, start_at (show (V.ref p :: us)[i + 1]? = some v from ev), rv⟩
    · have z : ∀ {i}, own (Slot.ol true zs :: (ds.map Slot.tr ++ List.replicate k Slot.un)) i → i = 0 := fun {i} oi => by
        cases i with
        | zero => rfl
        | succ i =>
          rcases oi with ⟨_, _, h⟩ | ⟨_, _, h⟩
          · rcases ep_trs h with e | ⟨d, _, e⟩ <;> cases e
          · rcases ep_trs h with e | ⟨d, _, e⟩ <;> cases e
      rw [z oi, z oj]
  refine ⟨c, F, _, R, ?_⟩
  have adv : ∀ {F' H' : Hp} {σ' : L2.St} {ρ' : Env}, Rs c F' σ' H' ρ' → AdvI p F H F' H' := fun R' => ⟨R'.up0, fun q o ne h => R'.fr q o h (by simp [c]; exact ne), R'.up, R'.nw⟩
  have io : ∀ {F' H' : Hp} {σ' : L2.St} {ρ' : Env} {zs' : List D}, Rs c F' σ' H' ρ' → ρ'[0]? = some (.ol true zs') → ∃ vs, H' p = some (.lst vs) ∧ RdL K mg F' vs zs' := fun {F' H' σ' ρ' zs'} R' e => by
    obtain ⟨q, vs, _, _, h, r, w⟩ := R'.sl 0 _ e
    rw [if_pos rfl] at w
    have w : some p = some q := w.1
    cases w
    exact ⟨vs, h, r⟩
  have look : ∀ {ρ' : Env} {kk : List D → Fr} {Q : VK} {E : XK}, FrPostI K mg p F H (ioOf ρ' kk) Q E → ∃ zs', ρ'[0]? = some (.ol true zs') ∧ FrPostI K mg p F H (kk zs') Q E := fun {ρ' kk Q E} h => by
    unfold ioOf at h
    cases e0 : ρ'[0]? with
    | none => rw [e0] at h; exact h.elim
    | some s0 =>
      rw [e0] at h
      cases s0 with
      | ol o zs' =>
        cases o with
        | true => exact ⟨zs', rfl, h⟩
        | false => exact h.elim
      | _ => exact h.elim
  dsimp only [runI] at pp
  cases e : b (Slot.ol true zs :: (ds.map Slot.tr ++ List.replicate k Slot.un)) with
  | bad => rw [e] at pp; exact pp.elim
  | ex cn fs ρ' =>
    rw [e] at pp
    obtain ⟨zs', e0, pp⟩ := look pp
    intro C dd fsV F' H' σ' m s R' hd rf
    obtain ⟨vs, hv, rv⟩ := io R' e0
    exact pp C dd fsV F' H' vs m (adv R') hd rf hv rv
  | ok sg ρ' =>
    rw [e] at pp
    cases sg with
    | bk => exact pp.elim
    | ct => exact pp.elim
    | nx =>
      obtain ⟨zs', e0, pp⟩ := look pp
      intro σ' F' H' s R'
      obtain ⟨vs, hv, rv⟩ := io R' e0
      exact pp .non F' H' vs (adv R') .non hv rv
    | rt w =>
      intro x σ' F' H' s R' r'
      cases w with
      | o i => exact pp.elim
      | t d =>
        obtain ⟨zs', e0, pp⟩ := look pp
        obtain ⟨vs, hv, rv⟩ := io R' e0
        exact pp x F' H' vs (adv R') (r'.toR rfl (fun _ => nofun)) hv rv
      | f zs =>
        obtain ⟨zs', e0, pp⟩ := look pp
        obtain ⟨vs, hv, rv⟩ := io R' e0
        exact pp x F' H' vs (adv R') (r'.toR rfl (fun _ => nofun)) hv rv
      | g b es =>
        obtain ⟨zs', e0, pp⟩ := look pp
        obtain ⟨vs, hv, rv⟩ := io R' e0
        exact pp x F' H' vs (adv R') (r'.toR rfl (fun _ => nofun)) hv rv
end
end Dx

namespace Dx
open PySem PySem.Spec PyProof.Rows L2 Hx
/-! ## operations on data -/
mutual
@[simp] def D.py : D → PyData
  | .non => .none
  | .bl b => .bool b
  | .int i => .int i
  | .str s => .str s
  | .lst ds => .list (D.pys ds)
  | .tup ds => .tuple (D.pys ds)
  | .dct _ => .dict []
  | _ => .none
@[simp] def D.pys : List D → List PyData
  | [] => []
  | d :: ds => D.py d :: D.pys ds
end
mutual
@[simp] def D.plain : D → Bool
  | .non => true
  | .bl _ => true
  | .int _ => true
  | .str _ => true
  | .lst ds => D.plains ds
  | .tup ds => D.plains ds
  | _ => false
@[simp] def D.plains : List D → Bool
  | [] => true
  | d :: ds => D.plain d && D.plains ds
end
-- plain, or with empty dicts within (D.py is meant of these alone)
mutual
@[simp] def D.plainE : D → Bool
  | .non => true
  | .bl _ => true
  | .int _ => true
  | .str _ => true
  | .lst ds => D.plainsE ds
  | .tup ds => D.plainsE ds
  | .dct [] => true
  | _ => false
@[simp] def D.plainsE : List D → Bool
  | [] => true
  | d :: ds => D.plainE d && D.plainsE ds
end
section
variable {K : PySem.W.Frag} {mg : Str → Option Value} {F H : Hp}
/-! what repr shows of data with empty dicts within. h₀: the heap, or the heap without the dict of the modules (of which no list of ours is known to keep away) -/
section
variable {prog : Program} {w : World} {h₀ : Heap}
mutual
theorem reprE (ns : ∀ o, h₀.get? sysModules = some o → o.cls ≠ .type "dict") : ∀ {v : Value} {d : D} {as : List Addr}, Reads h₀ v d.py as → d.plainE = true → d.py.showable = true → d.py.shown.length ≤ sizeLine → ∃ bs, ReadAtMost h₀ d.py.depth bs ∧ ReprK prog w bs h₀ d.py.depth v d.py.shown
  | _, .non, _, r, _, hs, hz => ReprK.of_reads r hs (fun h => by simp [PyData.hasDict] at h) hz
  | _, .bl _, _, r, _, hs, hz => ReprK.of_reads r hs (fun h => by simp [PyData.hasDict] at h) hz
  | _, .int _, _, r, _, hs, hz => ReprK.of_reads r hs (fun h => by simp [PyData.hasDict] at h) hz
  | _, .str _, _, r, _, hs, hz => ReprK.of_reads r hs (fun h => by simp [PyData.hasDict] at h) hz
  | v, .lst ds, _, r, p, hs, hz => by
    rw [D.py] at r hs hz ⊢
    rw [PyData.shown] at hz ⊢
    have r' := r
    cases r with
    | @list a o vs n _ _ h1 h2 h3 h4 =>
      obtain ⟨bs, hb, hk⟩ := reprsE ns h4 (by rw [D.plainE] at p; exact p) (by rw [PyData.showable] at hs; exact hs) (fun t ht => Nat.le_trans (listText_mem_le ht) hz)
      rw [PyData.depth]
      have up : PyData.depthAll (D.pys ds) < (PyData.list (D.pys ds)).depth := by rw [PyData.depth]; omega
      have na : a ∉ bs := not_mem_of_deeper r' up hb
      refine ⟨a :: bs, (by have := ReadAtMost.cons r' (Nat.le_of_lt up) hb; rw [PyData.depth] at this; exact this), ?_⟩
      obtain ⟨l⟩ := vs
      cases l with
      | nil =>
        have e : D.pys ds = [] := by
          have h := h4
          generalize D.pys ds = xs at h
          cases (show ReadsAll h₀ [] xs _ from h)
          rfl
        rw [e]
        simp only [PyData.shownAll, listText_nil]
        exact ReprK.listEmpty h1 h2 h3
      | cons x l => exact ReprK.list h1 h2 h3 na (by simpa using hk.length_eq) (fun i y e => hk.item i y (by simpa using e))
  | v, .tup ds, _, r, p, hs, hz => by
    rw [D.py] at r hs hz ⊢
    rw [PyData.shown] at hz ⊢
    have r' := r
    cases r with
    | @tuple a o vs n _ _ h1 h2 h3 h4 =>
      obtain ⟨bs, hb, hk⟩ := reprsE ns h4 (by rw [D.plainE] at p; exact p) (by rw [PyData.showable] at hs; exact hs) (fun t ht => Nat.le_trans (tupleText_mem_le ht) hz)
      rw [PyData.depth]
      have up : PyData.depthAll (D.pys ds) < (PyData.tuple (D.pys ds)).depth := by rw [PyData.depth]; omega
      exact ⟨a :: bs, (by have := ReadAtMost.cons r' (Nat.le_of_lt up) hb; rw [PyData.depth] at this; exact this), ReprK.tuple h1 h2 h3 (not_mem_of_deeper r' up hb) hk⟩
  | v, .dct es, _, r, p, hs, hz => by
    rw [D.py] at r hs hz ⊢
    cases r with
    | @dict a o es n _ _ _ h1 h2 h3 h4 h5 =>
      refine ReprK.of_reads (Reads.dict h1 h2 h3 h4 h5) hs (fun _ m => ?_) hz
      cases h4' : es.toList with
      | cons _ _ => rw [h4'] at h4; cases h4
      | nil =>
        rw [h4'] at h4 h5
        cases h4
        cases h5
        have e : sysModules = a := by simpa using m
        exact ns o (by rw [e]; exact h1) h2
  | _, .scr _, _, _, p, _, _ => by simp [D.plainE] at p
  | _, .ins _ _, _, _, p, _, _ => by simp [D.plainE] at p
  | _, .ty _, _, _, p, _, _ => by simp [D.plainE] at p
theorem reprsE (ns : ∀ o, h₀.get? sysModules = some o → o.cls ≠ .type "dict") : ∀ {vs : List Value} {ds : List D} {as : List Addr}, ReadsAll h₀ vs (D.pys ds) as → D.plainsE ds = true → PyData.showableAll (D.pys ds) = true → (∀ t ∈ PyData.shownAll (D.pys ds), t.length ≤ sizeLine) →
    ∃ bs, ReadAtMost h₀ (PyData.depthAll (D.pys ds)) bs ∧ ReprAllK prog w bs h₀ (PyData.depthAll (D.pys ds)) vs (PyData.shownAll (D.pys ds))
  | _, [], _, r, p, hs, hz => ReprAllK.of_readsAll r hs (fun h => by simp [PyData.hasDictAll] at h) hz
  | _, d :: ds, _, r, p, hs, hz => by
    rw [D.pys] at r hs hz ⊢
    rw [D.plainsE, Bool.and_eq_true] at p
    rw [PyData.showableAll, Bool.and_eq_true] at hs
    rw [PyData.shownAll] at hz ⊢
    rw [PyData.depthAll]
    cases r with
    | cons r rs =>
      obtain ⟨b1, hb1, k1⟩ := reprE ns r p.1 hs.1 (hz _ List.mem_cons_self)
      obtain ⟨b2, hb2, k2⟩ := reprsE ns rs p.2 hs.2 fun t ht => hz t (List.mem_cons_of_mem _ ht)
      exact ⟨b1 ++ b2, (hb1.mono (Nat.le_max_left _ _)).append (hb2.mono (Nat.le_max_right _ _)), .cons ((k1.more fun b hb => List.mem_append_left _ hb).level_le (Nat.le_max_left _ _)) (k2.more_le (fun b hb => List.mem_append_right _ hb) (Nat.le_max_right _ _))⟩
end
end
theorem noDictSys (h : Heap) : ∃ h₀ : Heap, (∀ b o, h₀.get? b = some o → h.get? b = some o) ∧ (∀ o, h₀.get? sysModules = some o → o.cls ≠ .type "dict") ∧ ∀ b o, h.get? b = some o → (b = sysModules → o.cls ≠ .type "dict") → h₀.get? b = some o := by
  by_cases c : ∃ o, h.get? sysModules = some o ∧ o.cls = .type "dict"
  · obtain ⟨o, e, d⟩ := c
    refine ⟨hidT h fun b => if b = sysModules then some (.lst []) else none, fun b o e => (of_hidT e).1, fun o e => ?_, fun b o' e' n => hidT_get e' ?_⟩
    · have := (of_hidT e).2
      simp at this
    · by_cases z : b = sysModules
      · subst z
        rw [e] at e'; cases e'
        exact absurd d (n rfl)
      · simp [z]
  · exact ⟨h, fun _ _ e => e, fun o e d => c ⟨o, e, d⟩, fun _ _ e _ => e⟩
section
variable {X : Cx} {pins : List (Addr × Obj)} {σ : L2.St} {s : Shared}
theorem dict0_reads {h₀ : Heap} (up : ∀ b o, s.heap.get? b = some o → (b = sysModules → o.cls ≠ .type "dict") → h₀.get? b = some o) {a : Addr} {o : HO} (I : Inv X pins σ H s) (h : H a = some o) (z : o = .dK [] ∨ o = .dT []) : Reads h₀ (.ref a) (.dict []) [a] := by
  rcases z with rfl | rfl
  · obtain ⟨_, hs, vs, kv, dd⟩ : ObjOk X.prog X.w H s.heap a (.dK []) := I.hok a _ h
    cases kv
    obtain ⟨o, es, ep, h1, h2, h3, h4, h5, h6⟩ := dd
    have el : es.toList = [] := by
      generalize es.toList = l at h5
      cases h5
      rfl
    exact Reads.dict (kvs := []) (up _ _ h1 fun e => absurd e (beq_eq_false_iff_ne.mp hs)) h2.1 h3 (by rw [el]; exact .nil) (by rw [el]; exact .nil)
  · obtain ⟨_, hs, xs, kv, dd⟩ := dt_of I.hok h
    cases kv
    obtain ⟨o, es, ep, h1, h2, h3, h4, h5, h6⟩ := dd
    exact Reads.dict (kvs := []) (up _ _ h1 fun e => absurd e (beq_eq_false_iff_ne.mp hs)) h2.1 h3 (by rw [h4]; exact .nil) (by rw [h4]; exact .nil)
mutual
theorem Rd.reads {h₀ : Heap} (up : ∀ b o, s.heap.get? b = some o → (b = sysModules → o.cls ≠ .type "dict") → h₀.get? b = some o) {mg : Str → Option Value} (I : Inv X pins σ H s) (u : Same F H) : ∀ {v : V} {d : D} {w : Value}, Rd X.K mg F v d → RelV v w → d.plainE = true → ∃ as, Reads h₀ w d.py as
  | _, _, _, .non, r, _ => by cases r; exact ⟨_, Reads.none⟩
  | _, _, _, .bl b, r, _ => by cases r; exact ⟨_, Reads.bool b⟩
  | _, _, _, .int i, r, _ => by obtain ⟨t, rfl⟩ := r; exact ⟨_, Reads.int i t⟩
  | _, _, _, .str x, r, _ => by obtain ⟨t, rfl⟩ := r; exact ⟨_, Reads.str x t⟩
  | _, _, _, @Rd.lst _ _ _ a vs ds h rl, r, p => by
    cases r
    have hh := u _ _ h
    obtain ⟨its, rv, ⟨o, n, ho, hc, _, hd⟩, _⟩ := I.list (sq_of (K := X.K) hh)
    obtain ⟨as, hr⟩ := RdL.reads up I u rl rv (by rw [D.plainE] at p; exact p)
    exact ⟨_, Reads.list (up _ _ ho fun _ e => by rw [hc] at e; injection e with e; exact absurd e (by decide)) hc hd hr⟩
  | _, _, _, @Rd.tup _ _ _ a vs ds h rl, r, p => by
    cases r
    obtain ⟨its, rv, ⟨o, ho, hc, n, hd⟩, _⟩ := I.tuple (st_of (K := X.K) (u _ _ h))
    obtain ⟨as, hr⟩ := RdL.reads up I u rl rv (by rw [D.plainE] at p; exact p)
    exact ⟨_, Reads.tuple (up _ _ ho fun _ e => by rw [hc] at e; injection e with e; exact absurd e (by decide)) hc hd hr⟩
  | _, _, _, .scr _ _, _, p => by simp [D.plainE] at p
  | _, _, _, @Rd.dK _ _ _ a kvs es h rl, r, p => by
    cases r
    cases rl with
    | nil => exact ⟨_, dict0_reads up I (u _ _ h) (.inl rfl)⟩
    | cons _ _ => simp [D.plainE] at p
  | _, _, _, @Rd.dT _ _ _ a kvs es h rl, r, p => by
    cases r
    cases rl with
    | nil => exact ⟨_, dict0_reads up I (u _ _ h) (.inr rfl)⟩
    | cons _ _ => simp [D.plainE] at p
  | _, _, _, .ins _ _ _, _, p => by simp [D.plainE] at p
  | _, _, _, .ty _, _, p => by simp [D.plainE] at p
theorem RdL.reads {h₀ : Heap} (up : ∀ b o, s.heap.get? b = some o → (b = sysModules → o.cls ≠ .type "dict") → h₀.get? b = some o) {mg : Str → Option Value} (I : Inv X pins σ H s) (u : Same F H) : ∀ {v : List V} {d : List D} {w : List Value}, RdL X.K mg F v d → Vals v w → D.plainsE d = true → ∃ as, ReadsAll h₀ w (D.pys d) as
  | _, _, _, .nil, r, _ => by cases r; exact ⟨_, ReadsAll.nil⟩
  | _, _, _, .cons h hs, r, p => by
    rw [D.plainsE, Bool.and_eq_true] at p
    cases r with
    | cons r1 r2 =>
      obtain ⟨as, q1⟩ := Rd.reads up I u h r1 p.1
      obtain ⟨bs, q2⟩ := RdL.reads up I u hs r2 p.2
      exact ⟨_, ReadsAll.cons q1 q2⟩
end
end
mutual
theorem Rd.dp (u : Same F H) : ∀ {v : V} {d : D}, Rd K mg F v d → d.plain = true → Dp K H v d.py
  | _, _, .non, _ => .non
  | _, _, .bl b, _ => .bl b
  | _, _, .int i, _ => .int i
  | _, _, .str s, _ => .str s
  | _, _, .lst h r, p => by rw [D.py]; exact .lst (sq_of (u _ _ h)) (RdL.dp u r (by rw [D.plain] at p; exact p))
  | _, _, .tup h r, p => by rw [D.py]; exact .tup (st_of (u _ _ h)) (RdL.dp u r (by rw [D.plain] at p; exact p))
  | _, _, .scr _ _, p => by simp [D.plain] at p
  | _, _, .dK _ _, p => by simp [D.plain] at p
  | _, _, .dT _ _, p => by simp [D.plain] at p
  | _, _, .ins _ _ _, p => by simp [D.plain] at p
  | _, _, .ty _, p => by simp [D.plain] at p
theorem RdL.dp (u : Same F H) : ∀ {v : List V} {d : List D}, RdL K mg F v d → D.plains d = true → DpAll K H v (D.pys d)
  | _, _, .nil, _ => .nil
  | _, _, .cons h r, p => by
    rw [D.plains, Bool.and_eq_true] at p
    rw [D.pys]; exact .cons (Rd.dp u h p.1) (RdL.dp u r p.2)
end
theorem Pk.dp {x : V} {d : D} (u : Same F H) (h : Pk K mg F H x d) (p : d.plain = true) : Dp K H x d.py := by
  rcases h with h | ⟨q, vs, ds, rfl, rfl, h, r⟩ | ⟨_, _, _, _, rfl, _⟩
  · exact h.dp u p
  · rw [D.py]; exact .lst (sq_of h) (r.dp u (by rw [D.plain] at p; exact p))
  · simp [D.plain] at p
end
def D.flat : D → Option V
  | .non => some .non
  | .bl b => some (.bl b)
  | .int i => some (.int i)
  | .str s => some (.str s)
  | _ => none
@[simp] def D.flats : List D → Option (List V)
  | [] => some []
  | d :: ds => match d.flat, D.flats ds with
    | some v, some vs => some (v :: vs)
    | _, _ => none
section
variable {K : PySem.W.Frag} {mg : Str → Option Value} {F H : Hp}
theorem Rd.flat {x v : V} {d : D} (h : Rd K mg F x d) (e : d.flat = some v) : x = v ∧ flatV v = true := by
  cases h <;> cases e <;> exact ⟨rfl, rfl⟩
theorem Pk.flat {x v : V} {d : D} (h : Pk K mg F H x d) (e : d.flat = some v) : x = v ∧ flatV v = true := by
  rcases h with h | ⟨q, vs, ds, rfl, rfl, h, r⟩ | ⟨_, _, _, _, rfl, _⟩
  · exact h.flat e
  · cases e
  · cases e
theorem RdL.flat : ∀ {xs vs : List V} {ds : List D}, RdL K mg F xs ds → D.flats ds = some vs → xs = vs ∧ vs.all flatV = true
  | _, _, _, .nil, e => by cases e; exact ⟨rfl, rfl⟩
  | _, _, _, .cons (d := d) (ds := ds) h r, e => by
    rw [D.flats] at e
    cases e1 : d.flat with
    | none => rw [e1] at e; cases e
    | some v =>
      cases e2 : D.flats ds with
      | none => rw [e1, e2] at e; cases e
      | some vs =>
        rw [e1, e2] at e
        cases e
        obtain ⟨rfl, f1⟩ := h.flat e1
        obtain ⟨rfl, f2⟩ := RdL.flat r e2
        exact ⟨rfl, by rw [List.all_cons, f1, f2]; rfl⟩
end
/-- a truth, a number given -/
@[simp] def wb (b : Bool) : Option W := some (.t (.bl b))
@[simp] def wi (i : Int) : Option W := some (.t (.int i))
@[simp] def ws (s : Str) : Option W := some (.t (.str s))
def eqD : D → D → Option Bool
  | .int a, .int b => some (decide (a = b))
  | .str a, .str b => some (decide (a = b))
  | .bl a, .bl b => some (decide (a = b))
  | .non, .non => some true
  | .non, .int _ => some false
  | .int _, .non => some false
  | .non, .bl _ => some false
  | .bl _, .non => some false
  | .non, .str _ => some false
  | .str _, .non => some false
  | .int _, .str _ => some false
  | .str _, .int _ => some false
  | .bl _, .str _ => some false
  | .str _, .bl _ => some false
  | .tup ds, .tup [] => some ds.isEmpty
  | .lst ds, .lst [] => some ds.isEmpty
  | d, e => if d.plain = true ∧ e.plain = true ∧ SeqAt.shaped d.py = true ∧ SeqAt.shaped e.py = true then some (PyData.eqv d.py e.py) else none
def repD (a : List D) (n : Nat) : List D := (List.replicate n a).flatten
def isNon : D → Bool
  | .non => true
  | _ => false
namespace O
def add : D → D → Option W
  | .int a, .int b => wi (a + b)
  | .str a, .str b => if a.length + b.length ≤ 16000000 then ws (a ++ b) else none
  | .lst a, .lst b => if a.length + b.length ≤ 16000000 then some (.f (a ++ b)) else none
  | .tup a, .tup b => if a.length + b.length ≤ 16000000 ∧ a ≠ [] ∧ b ≠ [] then some (.t (.tup (a ++ b))) else none
  | _, _ => none
def sub : D → D → Option W
  | .int a, .int b => wi (a - b)
  | _, _ => none
def mul : D → D → Option W
  | .int a, .int b => if (-(2 ^ 64) < a ∧ a < 2 ^ 64) ∨ (-(2 ^ 64) < b ∧ b < 2 ^ 64) then wi (a * b) else none
  | .str z, .int b => if 0 ≤ b ∧ b ≤ 1000000 ∧ z.length ≤ 1000000 ∧ z.length * b.toNat ≤ 1000000 then ws (mulS z b.toNat) else none
  | .lst a, .int b => if b ≤ 1000000 ∧ -1000000 ≤ b ∧ a.length * b.toNat ≤ 16000000 then some (.f (repD a b.toNat)) else none
  | _, _ => none
def mod : D → D → Option W
  | .int a, .int b => if 0 < b then wi (a % b) else none
  | _, _ => none
def fdiv : D → D → Option W
  | .int a, .int b => if 0 < b ∧ b < 1073741824 then wi (a / b) else none
  | _, _ => none
def pow : D → D → Option W
  | .int a, .int b => if 0 ≤ b ∧ b ≤ 1000000 ∧ a.natAbs < 2 ^ 64 then wi (a ^ b.toNat) else none
  | _, _ => none
def xor : D → D → Option W
  | .int a, .int b => wi (Builtin.bitXor a b)
  | _, _ => none
def eq (d e : D) : Option W := (eqD d e).map fun b => .t (.bl b)
def ne (d e : D) : Option W := (eqD d e).map fun b => .t (.bl (!b))
def lt : D → D → Option W
  | .int a, .int b => wb (decide (a < b))
  | d, e => if d.plain = true ∧ e.plain = true ∧ PySem.W.alike d.py e.py = true ∧ d.py.depth ≤ 60 ∧ isNon d = false then wb (PySem.W.dataLt d.py e.py) else none
def le : D → D → Option W
  | .int a, .int b => wb (decide (a ≤ b))
  | _, _ => none
def gt : D → D → Option W
  | .int a, .int b => wb (decide (b < a))
  | _, _ => none
def ge : D → D → Option W
  | .int a, .int b => wb (decide (b ≤ a))
  | _, _ => none
def isN : D → D → Option W
  | d, .non => wb (isNon d)
  | _, _ => none
def notN : D → D → Option W
  | d, .non => wb (!isNon d)
  | _, _ => none
def neg : D → Option W
  | .int a => wi (-a)
  | _ => none
end O
section
variable {K : PySem.W.Frag} {mg : Str → Option Value}
theorem d_add : OpD2 K mg (fun x y H Q => rAddU x y H Q ∨ rCatT K x y H Q) O.add := by
  intro F H x y d e Q u hx hy q
  unfold O.add at q
  split at q
  · cases hx.int; cases hy.int; exact .inl (g_addI (q.sc u fun _ => .int _))
  · cases hx.str; cases hy.str
    split at q
    · rename_i l; exact .inl (g_addS (by rw [sizeLine_eq]; omega) (q.sc u fun _ => .str _))
    · exact q.elim
  · obtain ⟨a, xs, rfl, h1, r1⟩ := hx.lst u
    obtain ⟨b, ys, rfl, h2, r2⟩ := hy.lst u
    split at q
    · rename_i l
      exact .inl (g_addL h1 h2 (by rw [r1.len, r2.len, sizeLine_eq]; omega) fun p np => q p _ np (r1.app r2))
    · exact q.elim
  · obtain ⟨a, xs, rfl, h1, r1⟩ := hx.tup u
    obtain ⟨b, ys, rfl, h2, r2⟩ := hy.tup u
    split at q
    · rename_i l
      refine .inr ⟨a, b, xs, ys, rfl, rfl, st_of h1, st_of h2, ?_, by rw [r1.len, r2.len, sizeLine_eq]; omega, fun z => ?_, fun _ p np => q.tupN u np (r1.app r2)⟩
      · intro z; subst z; cases r1; exact l.2.1 rfl
      · subst z; cases r2; exact absurd rfl l.2.2
    · exact q.elim
  · exact q.elim
theorem d_sub : OpD2 K mg (rI0 fun i j => .int (i - j)) O.sub := by
  intro F H x y d e Q u hx hy q
  unfold O.sub at q
  split at q
  · cases hx.int; cases hy.int; exact g_rI0 (q.sc u fun _ => .int _)
  · exact q.elim
theorem d_mul : OpD2 K mg rMulU O.mul := by
  intro F H x y d e Q u hx hy q
  unfold O.mul at q
  split at q
  · cases hx.int; cases hy.int
    split at q
    · rename_i l; exact g_mulI l (q.sc u fun _ => .int _)
    · exact q.elim
  · cases hx.str; cases hy.int
    split at q
    · rename_i b l
      have e : b = ((b.toNat : Nat) : Int) := by omega
      rw [e]
      exact g_mulS (by omega) l.2.2.2 l.2.2.1 (q.sc u fun _ => .str _)
    · exact q.elim
  · obtain ⟨a, xs, rfl, h1, r1⟩ := hx.lst u
    cases hy.int
    split at q
    · rename_i b l
      refine .inr (.inr ⟨a, b, xs, rfl, rfl, h1, by omega, by omega, by rw [r1.len, sizeLine_eq]; omega, fun p np => q p _ np ?_⟩)
      unfold repD
      generalize b.toNat = n
      induction n with
      | zero => exact .nil
      | succ n ih => rw [List.replicate_succ, List.replicate_succ, List.flatten_cons, List.flatten_cons]; exact r1.app ih
    · exact q.elim
  · exact q.elim
theorem d_mod : OpD2 K mg (rI (fun _ j => 0 < j) fun i j => .int (i % j)) O.mod := by
  intro F H x y d e Q u hx hy q
  unfold O.mod at q
  split at q
  · cases hx.int; cases hy.int
    split at q
    · rename_i l; exact g_mod l (q.sc u fun _ => .int _)
    · exact q.elim
  · exact q.elim
theorem d_fdiv : OpD2 K mg (rI CDiv fun i j => .int (i / j)) O.fdiv := by
  intro F H x y d e Q u hx hy q
  unfold O.fdiv at q
  split at q
  · cases hx.int; cases hy.int
    split at q
    · rename_i l; exact g_div l (q.sc u fun _ => .int _)
    · exact q.elim
  · exact q.elim
theorem d_pow : OpD2 K mg (rI CPow fun i j => .int (i ^ j.toNat)) O.pow := by
  intro F H x y d e Q u hx hy q
  unfold O.pow at q
  split at q
  · cases hx.int; cases hy.int
    split at q
    · rename_i l; exact g_pow l (q.sc u fun _ => .int _)
    · exact q.elim
  · exact q.elim
theorem d_xor : OpD2 K mg (rI0 fun i j => .int (Builtin.bitXor i j)) O.xor := by
  intro F H x y d e Q u hx hy q
  unfold O.xor at q
  split at q
  · cases hx.int; cases hy.int; exact g_rI0 (q.sc u fun _ => .int _)
  · exact q.elim
theorem d_lt : OpD2 K mg (rLtU K) O.lt := by
  intro F H x y d e Q u hx hy q
  unfold O.lt at q
  split at q
  · cases hx.int; cases hy.int; exact g_ltI (q.sc u fun _ => .bl _)
  · split at q
    · rename_i c
      refine g_ltD (hx.dp u c.1) (hy.dp u c.2.1) c.2.2.1 (fun z => ?_) c.2.2.2.1 (q.sc u fun _ => .bl _)
      have p := c.1
      have n := c.2.2.2.2
      cases d <;> first | (simp [isNon] at n; done) | (simp [D.py] at z; done) | (simp [D.plain] at p; done)
    · exact q.elim
theorem d_le : OpD2 K mg (rI0 fun i j => .bl (decide (i ≤ j))) O.le := by
  intro F H x y d e Q u hx hy q
  unfold O.le at q
  split at q
  · cases hx.int; cases hy.int; exact g_rI0 (q.sc u fun _ => .bl _)
  · exact q.elim
theorem d_gt : OpD2 K mg (rI0 fun i j => .bl (decide (j < i))) O.gt := by
  intro F H x y d e Q u hx hy q
  unfold O.gt at q
  split at q
  · cases hx.int; cases hy.int; exact g_rI0 (q.sc u fun _ => .bl _)
  · exact q.elim
theorem d_ge : OpD2 K mg (rI0 fun i j => .bl (decide (j ≤ i))) O.ge := by
  intro F H x y d e Q u hx hy q
  unfold O.ge at q
  split at q
  · cases hx.int; cases hy.int; exact g_rI0 (q.sc u fun _ => .bl _)
  · exact q.elim
theorem d_neg : OpD1 K mg (rU fun i => .int (-i)) O.neg := by
  intro F H x d Q u hx q
  unfold O.neg at q
  split at q
  · cases hx.int; exact g_rU (q.sc u fun _ => .int _)
  · exact q.elim
theorem eqD_some {F H : Hp} {x y : V} {d e : D} {b : Bool} (u : Same F H) (hx : Pk K mg F H x d) (hy : Pk K mg F H y e) (h : eqD d e = some b) :
    (scal x y = true ∧ b = decide (x = y)) ∨ (∃ p q vs, x = .ref p ∧ y = .ref q ∧ (H p = some (.tup vs) ∧ H q = some (.tup []) ∨ H p = some (.lst vs) ∧ H q = some (.lst [])) ∧ b = vs.isEmpty) ∨ ∃ p q, Dp K H x p ∧ Dp K H y q ∧ SeqAt.shaped p = true ∧ SeqAt.shaped q = true ∧ b = PyData.eqv p q := by
  unfold eqD at h
  split at h
  · cases hx.int; cases hy.int; cases h; exact .inl ⟨rfl, decide_eq_decide.mpr ⟨fun h => by rw [h], fun h => V.int.inj h⟩⟩
  · cases hx.str; cases hy.str; cases h; exact .inl ⟨rfl, decide_eq_decide.mpr ⟨fun h => by rw [h], fun h => V.str.inj h⟩⟩
  · cases hx.bl; cases hy.bl; cases h; exact .inl ⟨rfl, decide_eq_decide.mpr ⟨fun h => by rw [h], fun h => V.bl.inj h⟩⟩
  · cases hx.non; cases hy.non; cases h; exact .inl ⟨rfl, rfl⟩
  · cases hx.non; cases hy.int; cases h; exact .inl ⟨rfl, rfl⟩
  · cases hx.int; cases hy.non; cases h; exact .inl ⟨rfl, rfl⟩
  · cases hx.non; cases hy.bl; cases h; exact .inl ⟨rfl, rfl⟩
  · cases hx.bl; cases hy.non; cases h; exact .inl ⟨rfl, rfl⟩
  · cases hx.non; cases hy.str; cases h; exact .inl ⟨rfl, rfl⟩
  · cases hx.str; cases hy.non; cases h; exact .inl ⟨rfl, rfl⟩
  · cases hx.int; cases hy.str; cases h; exact .inl ⟨rfl, rfl⟩
  · cases hx.str; cases hy.int; cases h; exact .inl ⟨rfl, rfl⟩
  · cases hx.bl; cases hy.str; cases h; exact .inl ⟨rfl, rfl⟩
  · cases hx.str; cases hy.bl; cases h; exact .inl ⟨rfl, rfl⟩
  · rename_i ds
    cases h
    obtain ⟨p, vs, rfl, hp, r⟩ := hx.tup u
    obtain ⟨q, ws, rfl, hq, r2⟩ := hy.tup u
    cases r2
    exact .inr (.inl ⟨p, q, vs, rfl, rfl, .inl ⟨hp, hq⟩, by cases r <;> rfl⟩)
  · rename_i ds
    cases h
    obtain ⟨p, vs, rfl, hp, r⟩ := hx.lst u
    obtain ⟨q, ws, rfl, hq, r2⟩ := hy.lst u
    cases r2
    exact .inr (.inl ⟨p, q, vs, rfl, rfl, .inr ⟨hp, hq⟩, by cases r <;> rfl⟩)
  · split at h
    · rename_i c
      cases h
      exact .inr (.inr ⟨_, _, hx.dp u c.1, hy.dp u c.2.1, c.2.2.1, c.2.2.2, rfl⟩)
    · cases h
/-- == and != beside an empty one -/
def rE0 (g : Bool → Bool) : R2 := fun x y H Q => ∃ p q vs, x = .ref p ∧ y = .ref q ∧ (H p = some (.tup vs) ∧ H q = some (.tup []) ∨ H p = some (.lst vs) ∧ H q = some (.lst [])) ∧ Q (.bl (g vs.isEmpty)) H
section
variable {X : Cx}
theorem op_eq0 (hu : X.A.units + 64 < cLine) : OpR X (compareOp .Eq) (rE0 id) := by
  intro pins s σ H x y v u Q I rx ry h
  obtain ⟨p, q, vs, rfl, rfl, h, k⟩ := h
  cases rx
  cases ry
  rcases h with ⟨h1, h2⟩ | ⟨h1, h2⟩
  · obtain ⟨i1, r1, t1, _⟩ := I.tuple (st_of (K := X.K) h1)
    obtain ⟨i2, r2, t2, _⟩ := I.tuple (st_of (K := X.K) h2)
    cases r2
    refine SeqAt.eq_tupleAt (e := fun _ => true) t1 t2 (by omega) (fun j _ h => by simp at h) ⟨.bl _, H, I, ?_, k⟩
    cases r1 <;> rfl
  · obtain ⟨i1, r1, t1, _⟩ := I.list (sq_of (K := X.K) h1)
    obtain ⟨i2, r2, t2, _⟩ := I.list (sq_of (K := X.K) h2)
    cases r2
    cases r1 with
    | nil => exact SeqAt.eq_listAt (e := fun _ => true) t1.isList t2.isList rfl (by omega) (fun j _ h => by simp at h) ⟨.bl _, H, I, rfl, k⟩
    | cons _ _ => exact SeqAt.eq_list_lengthsAt t1.isList t2.isList rfl (by omega) ⟨.bl _, H, I, rfl, k⟩
theorem op_ne0 (hu : X.A.units + 64 < cLine) : OpR X (compareOp .NotEq) (rE0 not) := by
  intro pins s σ H x y v u Q I rx ry h
  obtain ⟨p, q, vs, rfl, rfl, h, k⟩ := h
  cases rx
  cases ry
  rcases h with ⟨h1, h2⟩ | ⟨h1, h2⟩
  · obtain ⟨i1, r1, t1, _⟩ := I.tuple (st_of (K := X.K) h1)
    obtain ⟨i2, r2, t2, _⟩ := I.tuple (st_of (K := X.K) h2)
    cases r2
    refine SeqAt.RcNeAt.tuples (e := fun _ => true) t1 t2 (by omega) (fun j _ h => by simp at h) _ _ _ _ ⟨.bl _, H, I, ?_, k⟩
    cases r1 <;> rfl
  · obtain ⟨i1, r1, t1, _⟩ := I.list (sq_of (K := X.K) h1)
    obtain ⟨i2, r2, t2, _⟩ := I.list (sq_of (K := X.K) h2)
    cases r2
    cases r1 with
    | nil => exact SeqAt.RcNeAt.lists (e := fun _ => true) t1.isList t2.isList rfl (by omega) (fun j _ h => by simp at h) _ _ _ _ ⟨.bl _, H, I, rfl, k⟩
    | cons _ _ => exact SeqAt.RcNeAt.lists_lengths t1.isList t2.isList rfl (by omega) _ _ _ _ ⟨.bl _, H, I, rfl, k⟩
theorem op_eqW {K : PySem.W.Frag} (hK : X.K = K) (hu : X.A.units + 64 < cLine) : OpR X (compareOp .Eq) (fun x y H Q => rEqU K x y H Q ∨ rE0 id x y H Q) := by subst hK; exact (op_eqU hu).or (op_eq0 hu)
theorem op_neW {K : PySem.W.Frag} (hK : X.K = K) (hu : X.A.units + 64 < cLine) : OpR X (compareOp .NotEq) (fun x y H Q => rNeU K x y H Q ∨ rE0 not x y H Q) := by subst hK; exact (op_neU hu).or (op_ne0 hu)
end
theorem d_eq : OpD2 K mg (fun x y H Q => rEqU K x y H Q ∨ rE0 id x y H Q) O.eq := by
  intro F H x y d e Q u hx hy q
  unfold O.eq at q
  cases h : eqD d e with
  | none => rw [h] at q; exact q.elim
  | some b =>
    rw [h] at q
    rcases eqD_some u hx hy h with ⟨s, rfl⟩ | ⟨p1, p2, vs, e1, e2, h1, rfl⟩ | ⟨p1, p2, h1, h2, s1, s2, rfl⟩
    · exact .inl (g_eqU s (q.sc u fun _ => .bl _))
    · exact .inr ⟨p1, p2, vs, e1, e2, h1, q.sc u fun _ => .bl _⟩
    · exact .inl (g_eqD h1 h2 s1 s2 (q.sc u fun _ => .bl _))
theorem d_ne : OpD2 K mg (fun x y H Q => rNeU K x y H Q ∨ rE0 not x y H Q) O.ne := by
  intro F H x y d e Q u hx hy q
  unfold O.ne at q
  cases h : eqD d e with
  | none => rw [h] at q; exact q.elim
  | some b =>
    rw [h] at q
    rcases eqD_some u hx hy h with ⟨s, rfl⟩ | ⟨p1, p2, vs, e1, e2, h1, rfl⟩ | ⟨p1, p2, h1, h2, s1, s2, rfl⟩
    · exact .inl (g_neU s (q.sc u fun _ => .bl _))
    · exact .inr ⟨p1, p2, vs, e1, e2, h1, q.sc u fun _ => .bl _⟩
    · exact .inl (g_neD h1 h2 s1 s2 (q.sc u fun _ => .bl _))
theorem Pk.isNone {F H : Hp} {x : V} {d : D} (h : Pk K mg F H x d) : decide (x = .non) = isNon d := by
  rcases h with h | ⟨q, vs, ds, rfl, rfl, h, r⟩ | ⟨_, _, _, rfl, rfl, _⟩
  · cases h <;> rfl
  · rfl
  · rfl
theorem d_isN : OpD2 K mg (fun x y H Q => y = .non ∧ Q (.bl (decide (x = .non))) H) O.isN := by
  intro F H x y d e Q u hx hy q
  unfold O.isN at q
  split at q
  · refine ⟨hy.non, ?_⟩
    rw [hx.isNone]
    exact q.sc u fun _ => .bl _
  · exact q.elim
theorem d_notN : OpD2 K mg (fun x y H Q => y = .non ∧ Q (.bl (!decide (x = .non))) H) O.notN := by
  intro F H x y d e Q u hx hy q
  unfold O.notN at q
  split at q
  · refine ⟨hy.non, ?_⟩
    rw [hx.isNone]
    exact q.sc u fun _ => .bl _
  · exact q.elim
end
end Dx

namespace Dx
open PySem PySem.Spec PyProof.Rows L2 Hx
/-! ## further operations -/
inductive Ty where | non | bl | int | str | lst | tup | dct deriving DecidableEq
def Ty.nm : Ty → String | .non => "NoneType" | .bl => "bool" | .int => "int" | .str => "str" | .lst => "list" | .tup => "tuple" | .dct => "dict"
@[simp] def tyOf (n : String) : Option Ty := if n = "int" then some .int else if n = "bool" then some .bl else if n = "str" then some .str else if n = "list" then some .lst else if n = "tuple" then some .tup else if n = "dict" then some .dct else none
def D.tyc : D → Option Ty
  | .non => some .non
  | .bl _ => some .bl
  | .int _ => some .int
  | .str _ => some .str
  | .lst _ => some .lst
  | .scr _ => some .lst
  | .tup _ => some .tup
  | .dct _ => some .dct
  | _ => none
def isaB : Ty → Ty → Bool
  | .bl, .int => true
  | a, b => decide (a = b)
theorem kitB_is (a b : Ty) : kitB a.nm b.nm = some (isaB a b) := by cases a <;> cases b <;> decide +kernel
theorem tyOf_nm {n : String} {t : Ty} (h : tyOf n = some t) : n = t.nm := by
  unfold tyOf at h
  repeat' (split at h)
  all_goals first | (cases h; assumption) | cases h
@[simp] def tysOf : List D → Option (List Ty)
  | [] => some []
  | .ty n :: ds => match tyOf n, tysOf ds with | some t, some ts => some (t :: ts) | _, _ => none
  | _ => none
section
variable {K : PySem.W.Frag} {mg : Str → Option Value} {F H : Hp}
theorem Rd.tyX {x : V} {d : D} {t : Ty} (u : Same F H) (h : Rd K mg F x d) (e : d.tyc = some t) : TyX K H x (.type t.nm) := by
  cases h with
  | non => cases e; exact .base .non
  | bl b => cases e; exact .base (.bl b)
  | int i => cases e; exact .base (.int i)
  | str s => cases e; exact .base (.str s)
  | lst h r => cases e; exact .base (.lst (u _ _ h))
  | scr h r => cases e; exact l_type (u.seq h)
  | ty n => cases e
  | tup h r => cases e; exact .base (.tup (u _ _ h))
  | dK h r => cases e; exact .base (.dK (u _ _ h))
  | dT h r => cases e; exact .base (.dT (u _ _ h))
  | ins _ _ _ => cases e
theorem Pk.tyX {x : V} {d : D} {t : Ty} (u : Same F H) (h : Pk K mg F H x d) (e : d.tyc = some t) : TyX K H x (.type t.nm) := by
  rcases h with h | ⟨q, vs, ds, rfl, rfl, h, r⟩ | ⟨q, b, es, rfl, rfl, dc⟩
  · exact h.tyX u e
  · cases e; exact .base (.lst h)
  · cases e
    rcases dc with ⟨_, kvs, h, _⟩ | ⟨_, kvs, h, _⟩
    · exact .base (.dK h)
    · exact .base (.dT h)
end
/-- what a for walks of a value -/
def itemsOf : D → Option (List D)
  | .lst ds => some ds
  | .tup ds => some ds
  | .scr ds => some ds
  | .str s => some (s.cps.toList.map fun c => .str ⟨#[c]⟩)
  | _ => none
def cutD (xs : List D) (lo hi : Option Int) : List D := (xs.drop (HT.sIx xs.length 0 lo)).take (HT.sIx xs.length xs.length hi - HT.sIx xs.length 0 lo)
@[simp] def strsOf : List D → Option (List Str)
  | [] => some []
  | .str s :: ds => (strsOf ds).map fun l => s :: l
  | _ => none
@[simp] def intsOf : List D → Option (List Int)
  | [] => some []
  | .int s :: ds => (intsOf ds).map fun l => s :: l
  | _ => none
@[simp] def blsOf : List D → Option (List Bool)
  | [] => some []
  | .bl s :: ds => (blsOf ds).map fun l => s :: l
  | _ => none
namespace O
def inn : D → D → Option W
  | .str c, .str z => match c.cps.toList with | [k] => wb (decide (k ∈ z.cps.toList)) | _ => none
  | d, .lst ds => match d.flat, D.flats ds with | some v, some vs => wb (inV v vs) | _, _ => none
  | d, .tup ds => match d.flat, D.flats ds with | some v, some vs => wb (inV v vs) | _, _ => none
  | _, _ => none
def nin : D → D → Option W
  | .str c, .str z => match c.cps.toList with | [k] => wb (!decide (k ∈ z.cps.toList)) | _ => none
  | d, .lst ds => match d.flat, D.flats ds with | some v, some vs => wb (!inV v vs) | _, _ => none
  | d, .tup ds => match d.flat, D.flats ds with | some v, some vs => wb (!inV v vs) | _, _ => none
  | _, _ => none
/-- d is b, b a truth -/
def isB (b : Bool) : D → Option W
  | .bl x => wb (decide (x = b))
  | .ins _ _ => none
  | .ty _ => none
  | _ => wb false
def ix : D → D → Option W
  | .lst ds, .int i => (atI ds i).map .t
  | .tup ds, .int i => (atI ds i).map .t
  | .scr ds, .int i => (atI ds i).map .t
  | .str z, .int i => if z.length ≤ 16000000 then (atI z.cps.toList i).map fun c => .t (.str ⟨#[c]⟩) else none
  | _, _ => none
def sl (lo hi : Option Int) : D → Option W
  | .lst ds => some (.f (cutD ds lo hi))
  | .scr ds => some (.f (cutD ds lo hi))
  | .str z => if z.length ≤ 16000000 then ws (cutS z lo hi) else none
  | .tup ds => if HT.sIx ds.length 0 lo = 0 ∧ HT.sIx ds.length ds.length hi = ds.length then none else some (.t (.tup (cutD ds lo hi)))
  | _ => none
def rev : D → Option W
  | .str z => if z.length ≤ 16000000 then ws ⟨z.cps.toList.reverse.toArray⟩ else none
  | _ => none
def revL : D → Option W
  | .lst ds => some (.f ds.reverse)
  | _ => none
def len : List D → Option W
  | [.str z] => if z.length ≤ 16000000 then wi z.length else none
  | [.lst ds] => wi ds.length
  | [.tup ds] => wi ds.length
  | [.scr ds] => wi ds.length
  | _ => none
@[simp] def maxL : Int → List Int → Int
  | i, [] => i
  | i, j :: js => maxL (Max.max i j) js
@[simp] def minL : Int → List Int → Int
  | i, [] => i
  | i, j :: js => minL (Min.min i j) js
def hdI (f : Int → List Int → Int) : Option (List Int) → Option W
  | some (i :: is) => wi (f i is)
  | _ => none
def max : List D → Option W
  | [.int i, .int j] => wi (Max.max i j)
  | [.lst ds] => hdI maxL (intsOf ds)
  | _ => none
def min : List D → Option W
  | [.int i, .int j] => wi (Min.min i j)
  | [.lst ds] => hdI minL (intsOf ds)
  | _ => none
def all : List D → Option W
  | [.lst ds] => (blsOf ds).map fun bs => .t (.bl (bs.all id))
  | _ => none
def any : List D → Option W
  | [.lst ds] => (blsOf ds).map fun bs => .t (.bl (bs.any id))
  | _ => none
def sum : List D → Option W
  | [.lst ds] => (intsOf ds).map fun ns => .t (.int ns.sum)
  | _ => none
def isa : List D → Option W
  | [d, .ty n] => match d.tyc, tyOf n with | some s, some t => wb (isaB s t) | _, _ => none
  | [d, .tup ts] => match d.tyc, tysOf ts with | some s, some ts => wb (ts.any (isaB s)) | _, _ => none
  | _ => none
def int : List D → Option W
  | [.int i] => wi i
  | [.bl b] => wi (if b then 1 else 0)
  | [.str s] => if s.length ≤ 640 then (PySem.intText? s).map fun n => .t (.int n) else none
  | _ => none
def shownOk (d : PyData) : Bool := d.showable && decide (d.depth ≤ 60) && decide (d.shown.length ≤ 16777216)
def repr : List D → Option W
  | [d] => if d.plainE = true ∧ shownOk d.py = true then ws d.py.shown else none
  | _ => none
def list : List D → Option W
  | [.lst ds] => some (.f ds)
  | [.tup ds] => some (.f ds)
  | [.scr ds] => some (.f ds)
  | [.str z] => if z.length ≤ 1000000 then some (.f (z.cps.toList.map fun c => .str ⟨#[c]⟩)) else none
  | _ => none
def tuple : List D → Option W
  | [.lst ds] => some (.t (.tup ds))
  | [.scr ds] => some (.t (.tup ds))
  | [.tup ds] => some (.t (.tup ds))
  | _ => none
def swapcase : D → List D → Option W
  | .str z, _ => if z.length ≤ 5592405 then ws (Txt.swapcase z) else none
  | _, _ => none
def upper : D → List D → Option W
  | .str z, _ => if z.length ≤ 5592405 then ws (Txt.upper z) else none
  | _, _ => none
def lower : D → List D → Option W
  | .str z, _ => if z.length ≤ 5592405 then ws (Txt.lower z) else none
  | _, _ => none
def join : D → List D → Option W
  | .str z, [.lst ds] => match strsOf ds with
    | some l => if (l.map (·.length)).sum + l.length * z.length ≤ 16000000 then ws (Txt.join z l) else none
    | none => none
  | _, _ => none
def index : D → List D → Option W
  | .str z, [.str y] => match Builtin.Str.occurrences z y 0 z.length 1 with
    | i :: _ => wi (i : Nat)
    | [] => none
  | _, _ => none
end O
/-! ### repr of data, empty dicts among it -/
def rReprW (K : PySem.W.Frag) (mg : Str → Option Value) : List V → Hp → VK → Prop := fun xs H Q => ∃ (x : V) (F : Hp) (d : D), xs = [x] ∧ Same F H ∧ Rd K mg F x d ∧ d.plainE = true ∧ d.py.showable = true ∧ d.py.depth ≤ 60 ∧ d.py.shown.length ≤ sizeLine ∧ Q (.str d.py.shown) H
section
variable {prog : Program} {w : World} {h₀ : Heap} {A : Around} {E : Value → Shared → Prop} {s : Shared} {Q : Value → Shared → Prop} {u : Value} {as : List Addr}
theorem callRepr_lst {ds : List D} (k1 : ∀ b o, h₀.get? b = some o → s.heap.get? b = some o) (k2 : ∀ o, h₀.get? sysModules = some o → o.cls ≠ .type "dict") (r : Reads h₀ u (D.lst ds).py as) (p : (D.lst ds).plainE = true) (hs : (D.lst ds).py.showable = true)
    (hg : A.guards = some []) (hu : A.units + ((D.lst ds).py.depth + 1) < cLine) (hz : (D.lst ds).py.shown.length ≤ sizeLine) (hQ : ∀ h' v tk, (∀ b o, s.heap.get? b = some o → h'.get? b = some o) → Q (.str (D.lst ds).py.shown v) { s with heap := h', toks := tk }) : wpAny (model prog w) A (call (.builtin "repr") [u]) Q E s := by
  rw [D.py] at r hs hz hu hQ
  rw [PyData.shown] at hz hQ
  have r' := r
  cases r with
  | @list a o vs n _ _ h1 h2 h3 h4 =>
    obtain ⟨bs, hb, hk⟩ := reprsE (prog := prog) (w := w) k2 h4 (by rw [D.plainE] at p; exact p) (by rw [PyData.showable] at hs; exact hs) (fun t ht => Nat.le_trans (listText_mem_le ht) hz)
    have up : PyData.depthAll (D.pys ds) < (PyData.list (D.pys ds)).depth := by rw [PyData.depth]; omega
    have na : a ∉ bs := not_mem_of_deeper r' up hb
    rw [PyData.depth] at hu
    refine call_repr_slot (by omega) ⟨o, k1 _ _ h1, h2⟩ F.slot_list_repr.toG ?_
    obtain ⟨l⟩ := vs
    cases l with
    | nil =>
      have e : D.pys ds = [] := by
        have h := h4
        generalize D.pys ds = xs at h
        cases (show ReadsAll h₀ [] xs _ from h)
        rfl
      rw [e] at hQ
      simp only [PyData.shownAll, listText_nil] at hQ
      exact call_list_repr_empty ⟨o, k1 _ _ h1, h2⟩ (k1 _ _ h1) h3 ⟨_, _, rfl, hQ s.heap _ _ fun _ _ e => e⟩
    | cons x l => exact call_list_reprK h1 h2 h3 na (by simpa using hk.length_eq) (fun i y e => hk.item i y (by simpa using e)) hg (fun b _ => Clear.nil b) (by show A.units + 1 + _ < cLine; omega) k1 (fun h' v tk kp => ⟨_, _, rfl, hQ h' v tk kp⟩) hz
theorem callRepr_tup {ds : List D} (k1 : ∀ b o, h₀.get? b = some o → s.heap.get? b = some o) (k2 : ∀ o, h₀.get? sysModules = some o → o.cls ≠ .type "dict") (r : Reads h₀ u (D.tup ds).py as) (p : (D.tup ds).plainE = true) (hs : (D.tup ds).py.showable = true)
    (hg : A.guards = some []) (hu : A.units + ((D.tup ds).py.depth + 1) < cLine) (hz : (D.tup ds).py.shown.length ≤ sizeLine) (hQ : ∀ h' v tk, (∀ b o, s.heap.get? b = some o → h'.get? b = some o) → Q (.str (D.tup ds).py.shown v) { s with heap := h', toks := tk }) : wpAny (model prog w) A (call (.builtin "repr") [u]) Q E s := by
  rw [D.py] at r hs hz hu hQ
  rw [PyData.shown] at hz hQ
  have r' := r
  cases r with
  | @tuple a o vs n _ _ h1 h2 h3 h4 =>
    obtain ⟨bs, hb, hk⟩ := reprsE (prog := prog) (w := w) k2 h4 (by rw [D.plainE] at p; exact p) (by rw [PyData.showable] at hs; exact hs) (fun t ht => Nat.le_trans (tupleText_mem_le ht) hz)
    have up : PyData.depthAll (D.pys ds) < (PyData.tuple (D.pys ds)).depth := by rw [PyData.depth]; omega
    rw [PyData.depth] at hu
    refine call_repr_slot (by omega) ⟨o, k1 _ _ h1, h2⟩ F.slot_tuple_repr ?_
    exact call_tuple_reprK h1 h2 h3 (not_mem_of_deeper r' up hb) hk hg (fun b _ => Clear.nil b) (by show A.units + 1 + _ < cLine; omega) k1 (fun h' v tk kp => ⟨_, _, rfl, hQ h' v tk kp⟩) hz
theorem callRepr_dct {es : List (D × D)} (k1 : ∀ b o, h₀.get? b = some o → s.heap.get? b = some o) (k2 : ∀ o, h₀.get? sysModules = some o → o.cls ≠ .type "dict") (r : Reads h₀ u (D.dct es).py as) (p : (D.dct es).plainE = true) (hs : (D.dct es).py.showable = true)
    (hg : A.guards = some []) (hu : A.units + ((D.dct es).py.depth + 1) < cLine) (hz : (D.dct es).py.shown.length ≤ sizeLine) (hQ : ∀ h' v tk, (∀ b o, s.heap.get? b = some o → h'.get? b = some o) → Q (.str (D.dct es).py.shown v) { s with heap := h', toks := tk }) : wpAny (model prog w) A (call (.builtin "repr") [u]) Q E s := by
  rw [D.py] at r hs hz hu hQ
  cases r with
  | @dict a o es n _ _ _ h1 h2 h3 h4 h5 =>
    refine repr_of_reads' (Reads.dict h1 h2 h3 h4 h5) hs (fun _ m => ?_) hg hu k1 hQ hz
    cases h4' : es.toList with
    | cons _ _ => rw [h4'] at h4; cases h4
    | nil =>
      rw [h4'] at h4 h5
      cases h4
      cases h5
      have e : sysModules = a := by simpa using m
      exact k2 o (by rw [e]; exact h1) h2
end
theorem call_reprW {X : Cx} {K : PySem.W.Frag} {mg : Str → Option Value} (hK : X.K = K) (gd : X.A.guards = some []) (un : X.A.units + 64 < cLine) : CallR X (.builtin "repr") (rReprW K mg) := by
  subst hK
  intro pins s σ H xs us Q I r h
  obtain ⟨x, F, d, rfl, su, hd, pl, sh, dp, sz, q⟩ := h
  obtain ⟨u, rfl, ru⟩ := vals1 r
  obtain ⟨h₀, k1, k2, k3⟩ := noDictSys s.heap
  obtain ⟨as, rd⟩ := Rd.reads k3 I su hd ru pl
  cases hd with
  | non => cases (show u = Value.none from ru); exact PySem.P.repr_of_none ⟨.str _, H, I.tok _, ⟨_, rfl⟩, q⟩
  | bl b => cases (show u = Value.bool b from ru); exact PySem.P.repr_of_bool ⟨.str _, H, I.tok _, ⟨_, rfl⟩, q⟩
  | int i =>
    obtain ⟨t, rfl⟩ := (show ∃ t, u = Value.int i t from ru)
    exact PySem.P.repr_of_int (of_decide_eq_true sh) ⟨.str _, H, I.tok _, ⟨_, rfl⟩, q⟩
  | str z =>
    obtain ⟨t, rfl⟩ := (show ∃ t, u = Value.str z t from ru)
    exact PySem.P.repr_of_str (hsz := sz) ⟨.str _, H, I.tok _, ⟨_, rfl⟩, q⟩
  | lst h r => exact callRepr_lst k1 k2 rd pl sh gd (by omega) sz fun h' v tk kp => ⟨.str _, H, I.kept (t' := tk) kp, ⟨_, rfl⟩, q⟩
  | tup h r => exact callRepr_tup k1 k2 rd pl sh gd (by omega) sz fun h' v tk kp => ⟨.str _, H, I.kept (t' := tk) kp, ⟨_, rfl⟩, q⟩
  | scr _ _ => simp [D.plainE] at pl
  | dK _ r => exact callRepr_dct k1 k2 rd pl sh gd (by omega) sz fun h' v tk kp => ⟨.str _, H, I.kept (t' := tk) kp, ⟨_, rfl⟩, q⟩
  | dT _ r => exact callRepr_dct k1 k2 rd pl sh gd (by omega) sz fun h' v tk kp => ⟨.str _, H, I.kept (t' := tk) kp, ⟨_, rfl⟩, q⟩
  | ins _ _ _ => simp [D.plainE] at pl
  | ty _ => simp [D.plainE] at pl
section
variable {K : PySem.W.Frag} {mg : Str → Option Value} {F H : Hp}
theorem RdL.strs : ∀ {vs : List V} {ds : List D} {l : List Str}, RdL K mg F vs ds → strsOf ds = some l → vs = l.map V.str
  | _, _, _, .nil, e => by cases e; rfl
  | _, _, _, .cons (d := d) (ds := ds) h r, e => by
    cases d with
    | str s =>
      rw [strsOf] at e
      cases e2 : strsOf ds with
      | none => rw [e2] at e; cases e
      | some l => rw [e2] at e; cases e; rw [h.inv_str, RdL.strs r e2]; rfl
    | _ => cases e
theorem RdL.ints : ∀ {vs : List V} {ds : List D} {l : List Int}, RdL K mg F vs ds → intsOf ds = some l → vs = l.map V.int
  | _, _, _, .nil, e => by cases e; rfl
  | _, _, _, .cons (d := d) (ds := ds) h r, e => by
    cases d with
    | int s =>
      rw [intsOf] at e
      cases e2 : intsOf ds with
      | none => rw [e2] at e; cases e
      | some l => rw [e2] at e; cases e; rw [h.inv_int, RdL.ints r e2]; rfl
    | _ => cases e
theorem RdL.bls : ∀ {vs : List V} {ds : List D} {l : List Bool}, RdL K mg F vs ds → blsOf ds = some l → vs = l.map V.bl
  | _, _, _, .nil, e => by cases e; rfl
  | _, _, _, .cons (d := d) (ds := ds) h r, e => by
    cases d with
    | bl s =>
      rw [blsOf] at e
      cases e2 : blsOf ds with
      | none => rw [e2] at e; cases e
      | some l => rw [e2] at e; cases e; rw [h.inv_bl, RdL.bls r e2]; rfl
    | _ => cases e
theorem atI_rd {vs : List V} {ds : List D} {i : Int} {d : D} (r : RdL K mg F vs ds) (e : atI ds i = some d) : ∃ v, atI vs i = some v ∧ Rd K mg F v d := by
  unfold atI at e ⊢
  rw [r.len]
  cases q : ixN ds.length i with
  | none => rw [q] at e; cases e
  | some j =>
    rw [q] at e
    exact r.get e
theorem cut_rd {vs : List V} {ds : List D} {lo hi : Option Int} (r : RdL K mg F vs ds) : RdL K mg F (cutV vs lo hi) (cutD ds lo hi) := by
  unfold cutV cutD
  rw [r.len]
  exact (r.dropD _).takeD _
def rInU (K : PySem.W.Frag) (neg : Bool) : R2 := fun x y H Q => rIn K neg x y H Q ∨ ∃ (c : Nat) (z : Str), x = .str ⟨#[c]⟩ ∧ y = .str z ∧ Q (.bl (if neg then !decide (c ∈ z.cps.toList) else decide (c ∈ z.cps.toList))) H
theorem op_innU {X : Cx} (hK : X.K = K) : OpR X (compareOp .In) (rInU K false) := by
  subst hK
  exact op_in_seq.or fun pins s σ H x y v u Q I rx ry h => op_in_sign pins s σ H x y v u Q I rx ry h
theorem op_ninU {X : Cx} (hK : X.K = K) : OpR X (compareOp .NotIn) (rInU K true) := by
  subst hK
  exact op_notIn_seq.or fun pins s σ H x y v u Q I rx ry h => op_notIn_sign pins s σ H x y v u Q I rx ry h
theorem sign_of {c : Str} {k : Nat} (h : c.cps.toList = [k]) : c = ⟨#[k]⟩ := by
  cases c with
  | mk a => congr 1; exact Array.toList_inj.mp h
theorem d_inn : OpD2 K mg (rInU K false) O.inn := by
  intro F H x y d e Q u hx hy q
  unfold O.inn at q
  split at q
  · cases hx.str; cases hy.str
    split at q
    · rename_i k hk
      have := sign_of hk
      subst this
      exact .inr ⟨k, _, rfl, rfl, q.sc u fun _ => .bl _⟩
    · exact q.elim
  · split at q
    · rename_i v vs e1 e2
      obtain ⟨a, xs, rfl, h1, r1⟩ := hy.lst u
      obtain ⟨rfl, f1⟩ := hx.flat e1
      obtain ⟨rfl, f2⟩ := r1.flat e2
      exact .inl ⟨a, xs, rfl, .inl (sq_of h1), f1, f2, q.sc u fun _ => .bl _⟩
    · exact q.elim
  · split at q
    · rename_i v vs e1 e2
      obtain ⟨a, xs, rfl, h1, r1⟩ := hy.tup u
      obtain ⟨rfl, f1⟩ := hx.flat e1
      obtain ⟨rfl, f2⟩ := r1.flat e2
      exact .inl ⟨a, xs, rfl, .inr (st_of h1), f1, f2, q.sc u fun _ => .bl _⟩
    · exact q.elim
  · exact q.elim
theorem d_nin : OpD2 K mg (rInU K true) O.nin := by
  intro F H x y d e Q u hx hy q
  unfold O.nin at q
  split at q
  · cases hx.str; cases hy.str
    split at q
    · rename_i k hk
      have := sign_of hk
      subst this
      exact .inr ⟨k, _, rfl, rfl, q.sc u fun _ => .bl _⟩
    · exact q.elim
  · split at q
    · rename_i v vs e1 e2
      obtain ⟨a, xs, rfl, h1, r1⟩ := hy.lst u
      obtain ⟨rfl, f1⟩ := hx.flat e1
      obtain ⟨rfl, f2⟩ := r1.flat e2
      exact .inl ⟨a, xs, rfl, .inl (sq_of h1), f1, f2, q.sc u fun _ => .bl _⟩
    · exact q.elim
  · split at q
    · rename_i v vs e1 e2
      obtain ⟨a, xs, rfl, h1, r1⟩ := hy.tup u
      obtain ⟨rfl, f1⟩ := hx.flat e1
      obtain ⟨rfl, f2⟩ := r1.flat e2
      exact .inl ⟨a, xs, rfl, .inr (st_of h1), f1, f2, q.sc u fun _ => .bl _⟩
    · exact q.elim
  · exact q.elim
theorem d_ix : OpD2 K mg (rIx K) O.ix := by
  intro F H x y d e Q u hx hy q
  unfold O.ix at q
  split at q
  · rename_i ds i
    obtain ⟨a, xs, rfl, h1, r1⟩ := hx.lst u
    cases hy.int
    cases e1 : atI ds i with
    | none => rw [e1] at q; exact q.elim
    | some d1 =>
      rw [e1] at q
      obtain ⟨v, ev, rv⟩ := atI_rd r1 e1
      exact g_ixL (sq_of h1) ev (q.rd u rv)
  · rename_i ds i
    obtain ⟨a, xs, rfl, h1, r1⟩ := hx.tup u
    cases hy.int
    cases e1 : atI ds i with
    | none => rw [e1] at q; exact q.elim
    | some d1 =>
      rw [e1] at q
      obtain ⟨v, ev, rv⟩ := atI_rd r1 e1
      exact g_ixT (st_of h1) ev (q.rd u rv)
  · rename_i ds i
    obtain ⟨a, xs, rfl, h1, r1⟩ := hx.scr u
    cases hy.int
    cases e1 : atI ds i with
    | none => rw [e1] at q; exact q.elim
    | some d1 =>
      rw [e1] at q
      obtain ⟨v, ev, rv⟩ := atI_rd r1 e1
      exact g_ixL h1 ev (q.rd u rv)
  · rename_i z i
    cases hx.str; cases hy.int
    split at q
    · cases e1 : atI z.cps.toList i with
      | none => rw [e1] at q; exact q.elim
      | some d1 => rw [e1] at q; exact g_ixS (by rw [sizeLine_eq]; omega) e1 (q.sc u fun _ => .str _)
    · exact q.elim
  · exact q.elim
def rSlUT (K : PySem.W.Frag) : V → Option Int → Option Int → Hp → VK → Prop := fun x lo hi H Q => rSlU K x lo hi H Q ∨ rSlT K x lo hi H Q
theorem sl_UT {X : Cx} (hK : X.K = K) : SlR X (rSlUT K) := by subst hK; exact sl_U.or sl_tup
theorem d_sl {lo hi : Option Int} : OpD1 K mg (fun x H Q => rSlUT K x lo hi H Q) (O.sl lo hi) := by
  intro F H x d Q u hx q
  unfold O.sl at q
  split at q
  · obtain ⟨a, xs, rfl, h1, r1⟩ := hx.lst u
    exact .inl (g_slL (sq_of h1) fun p np => q p _ np (cut_rd r1))
  · obtain ⟨a, xs, rfl, h1, r1⟩ := hx.scr u
    exact .inl (g_slL h1 fun p np => q p _ np (cut_rd r1))
  · cases hx.str
    split at q
    · exact .inl (g_slS (by rw [sizeLine_eq]; omega) (q.sc u fun _ => .str _))
    · exact q.elim
  · obtain ⟨a, xs, rfl, h1, r1⟩ := hx.tup u
    split at q
    · exact q.elim
    · rename_i n
      exact .inr ⟨a, xs, rfl, st_of h1, by rw [r1.len]; exact n, fun p np => q.tupN u np (cut_rd r1)⟩
  · exact q.elim
theorem d_len : CaD K mg (rLenU K) O.len := by
  intro F H xs ds Q u r q
  unfold O.len at q
  split at q
  · match xs, r with
    | [x], .cons hx .nil =>
      cases hx.str
      split at q
      · exact g_lenS (by rw [sizeLine_eq]; omega) (q.sc u fun _ => .int _)
      · exact q.elim
  · match xs, r with
    | [x], .cons hx .nil =>
      obtain ⟨a, vs, rfl, h1, r1⟩ := hx.lst u
      exact g_lenL (sq_of h1) (by rw [r1.len]; exact q.sc u fun _ => .int _)
  · match xs, r with
    | [x], .cons hx .nil =>
      obtain ⟨a, vs, rfl, h1, r1⟩ := hx.tup u
      exact g_lenT (st_of h1) (by rw [r1.len]; exact q.sc u fun _ => .int _)
  · match xs, r with
    | [x], .cons hx .nil =>
      obtain ⟨a, vs, rfl, h1, r1⟩ := hx.scr u
      exact g_lenL h1 (by rw [r1.len]; exact q.sc u fun _ => .int _)
  · exact q.elim
theorem maxL_ok : ∀ (i : Int) (is : List Int), O.maxL i is ∈ i :: is ∧ ∀ y ∈ i :: is, y ≤ O.maxL i is
  | i, [] => ⟨List.mem_cons_self, fun y h => by rw [List.mem_singleton.mp h]; exact Int.le_refl _⟩
  | i, j :: js => by
    obtain ⟨h1, h2⟩ := maxL_ok (Max.max i j) js
    rw [O.maxL]
    refine ⟨?_, fun y hy => ?_⟩
    · rcases List.mem_cons.mp h1 with e | h
      · rw [e]
        by_cases c : i ≤ j
        · rw [Int.max_eq_right c]; simp
        · rw [Int.max_eq_left (by omega)]; simp
      · simp [h]
    · have h0 := h2 _ List.mem_cons_self
      rcases List.mem_cons.mp hy with rfl | hy
      · exact Int.le_trans (Int.le_max_left _ _) h0
      · rcases List.mem_cons.mp hy with rfl | hy
        · exact Int.le_trans (Int.le_max_right _ _) h0
        · exact h2 y (List.mem_cons_of_mem _ hy)
theorem minL_ok : ∀ (i : Int) (is : List Int), O.minL i is ∈ i :: is ∧ ∀ y ∈ i :: is, O.minL i is ≤ y
  | i, [] => ⟨List.mem_cons_self, fun y h => by rw [List.mem_singleton.mp h]; exact Int.le_refl _⟩
  | i, j :: js => by
    obtain ⟨h1, h2⟩ := minL_ok (Min.min i j) js
    rw [O.minL]
    refine ⟨?_, fun y hy => ?_⟩
    · rcases List.mem_cons.mp h1 with e | h
      · rw [e]
        by_cases c : i ≤ j
        · rw [Int.min_eq_left c]; simp
        · rw [Int.min_eq_right (by omega)]; simp
      · simp [h]
    · have h0 := h2 _ List.mem_cons_self
      rcases List.mem_cons.mp hy with rfl | hy
      · exact Int.le_trans h0 (Int.min_le_left _ _)
      · rcases List.mem_cons.mp hy with rfl | hy
        · exact Int.le_trans h0 (Int.min_le_right _ _)
        · exact h2 y (List.mem_cons_of_mem _ hy)
theorem d_max : CaD K mg (rMaxU K) O.max := by
  intro F H xs ds Q u r q
  unfold O.max at q
  split at q
  · match xs, r with
    | [x, y], .cons hx (.cons hy .nil) => cases hx.int; cases hy.int; exact g_max2 (q.sc u fun _ => .int _)
  · rename_i ds
    match xs, r with
    | [x], .cons hx .nil =>
      obtain ⟨a, vs, rfl, h1, r1⟩ := hx.lst u
      cases e : intsOf ds with
      | none => rw [e] at q; exact q.elim
      | some bs =>
        rw [e] at q
        rw [r1.ints e] at h1
        cases bs with
        | nil => exact q.elim
        | cons i is =>
          refine .inr ⟨a, i :: is, rfl, sq_of h1, by simp, fun m hm hy => ?_⟩
          have z : m = O.maxL i is := Int.le_antisymm ((maxL_ok i is).2 m hm) (hy _ (maxL_ok i is).1)
          rw [z]
          exact q.sc u fun _ => .int _
  · exact q.elim
theorem d_min : CaD K mg (rMinU K) O.min := by
  intro F H xs ds Q u r q
  unfold O.min at q
  split at q
  · match xs, r with
    | [x, y], .cons hx (.cons hy .nil) => cases hx.int; cases hy.int; exact g_min2 (q.sc u fun _ => .int _)
  · rename_i ds
    match xs, r with
    | [x], .cons hx .nil =>
      obtain ⟨a, vs, rfl, h1, r1⟩ := hx.lst u
      cases e : intsOf ds with
      | none => rw [e] at q; exact q.elim
      | some bs =>
        rw [e] at q
        rw [r1.ints e] at h1
        cases bs with
        | nil => exact q.elim
        | cons i is =>
          refine .inr ⟨a, i :: is, rfl, sq_of h1, by simp, fun m hm hy => ?_⟩
          have z : m = O.minL i is := Int.le_antisymm (hy _ (minL_ok i is).1) ((minL_ok i is).2 m hm)
          rw [z]
          exact q.sc u fun _ => .int _
  · exact q.elim
theorem d_all : CaD K mg (rAll K) O.all := by
  intro F H xs ds Q u r q
  unfold O.all at q
  split at q
  · rename_i ds
    match xs, r with
    | [x], .cons hx .nil =>
      obtain ⟨a, vs, rfl, h1, r1⟩ := hx.lst u
      cases e : blsOf ds with
      | none => rw [e] at q; exact q.elim
      | some bs => rw [e] at q; rw [r1.bls e] at h1; exact g_all (sq_of h1) (q.sc u fun _ => .bl _)
  · exact q.elim
theorem d_any : CaD K mg (rAny K) O.any := by
  intro F H xs ds Q u r q
  unfold O.any at q
  split at q
  · rename_i ds
    match xs, r with
    | [x], .cons hx .nil =>
      obtain ⟨a, vs, rfl, h1, r1⟩ := hx.lst u
      cases e : blsOf ds with
      | none => rw [e] at q; exact q.elim
      | some bs => rw [e] at q; rw [r1.bls e] at h1; exact g_any (sq_of h1) (q.sc u fun _ => .bl _)
  · exact q.elim
theorem d_sum : CaD K mg (rSum K) O.sum := by
  intro F H xs ds Q u r q
  unfold O.sum at q
  split at q
  · rename_i ds
    match xs, r with
    | [x], .cons hx .nil =>
      obtain ⟨a, vs, rfl, h1, r1⟩ := hx.lst u
      cases e : intsOf ds with
      | none => rw [e] at q; exact q.elim
      | some bs => rw [e] at q; rw [r1.ints e] at h1; exact ⟨a, bs, rfl, sq_of h1, q.sc u fun _ => .int _⟩
  · exact q.elim
theorem tys_rd {F : Hp} : ∀ {cs : List V} {ts : List D} {l : List Ty}, RdL K mg F cs ts → tysOf ts = some l → Paired ClsV cs (l.map fun t => .type t.nm)
  | _, _, _, .nil, e => by cases e; exact .nil
  | _, _, _, .cons (d := d) (ds := ds) h r, e => by
    cases d with
    | ty n =>
      rw [tysOf] at e
      cases e1 : tyOf n with
      | none => rw [e1] at e; cases e
      | some t =>
        cases e2 : tysOf ds with
        | none => rw [e1, e2] at e; cases e
        | some l =>
          rw [e1, e2] at e
          cases e
          cases h
          rw [tyOf_nm e1]
          exact .cons (.ty _) (tys_rd r e2)
    | _ => cases e
theorem kitAny_is {s : Ty} : ∀ (ts : List Ty), PySem.W.kitAny K (.type s.nm) (ts.map fun t => .type t.nm) = some (ts.any (isaB s))
  | [] => rfl
  | t :: ts => by
    rw [List.map_cons, List.any_cons]
    refine kitAny_cons (kit_ty (kitB_is s t)) (fun h => ?_) fun h => ?_
    · rw [h, Bool.false_or]; exact kitAny_is ts
    · rw [h]; rfl
theorem d_isa : CaD K mg (rIsiU K) O.isa := by
  intro F H xs ds Q u r q
  unfold O.isa at q
  split at q
  · split at q
    · rename_i s t e1 e2
      match xs, r with
      | [x, y], .cons hx (.cons hy .nil) =>
        cases hy.ty
        rw [tyOf_nm e2]
        exact g_isi (.ty _) (hx.tyX u e1) (kit_ty (kitB_is s t)) (q.sc u fun _ => .bl _)
    · exact q.elim
  · split at q
    · rename_i s ts e1 e2
      match xs, r with
      | [x, y], .cons hx (.cons hy .nil) =>
        obtain ⟨a, vs, rfl, h1, r1⟩ := hy.tup u
        exact g_isiT h1 (tys_rd r1 e2) (hx.tyX u e1) (kitAny_is ts) (q.sc u fun _ => .bl _)
    · exact q.elim
  · exact q.elim
theorem d_int : CaD K mg rIntU O.int := by
  intro F H xs ds Q u r q
  unfold O.int at q
  split at q
  · match xs, r with
    | [x], .cons hx .nil => cases hx.int; exact g_intI (q.sc u fun _ => .int _)
  · match xs, r with
    | [x], .cons hx .nil => cases hx.bl; exact g_intBU (q.sc u fun _ => .int _)
  · rename_i s
    match xs, r with
    | [x], .cons hx .nil =>
      cases hx.str
      split at q
      · cases e : PySem.intText? s with
        | none => rw [e] at q; exact q.elim
        | some n => rw [e] at q; exact g_intS e (by assumption) (q.sc u fun _ => .int _)
      · exact q.elim
  · exact q.elim
theorem d_repr : CaD K mg (rReprW K mg) O.repr := by
  intro F H xs ds Q u r q
  unfold O.repr at q
  split at q
  · rename_i d
    match xs, r with
    | [x], .cons hx .nil =>
      split at q
      · rename_i c
        obtain ⟨c1, c2⟩ := c
        unfold O.shownOk at c2
        simp only [Bool.and_eq_true, decide_eq_true_eq] at c2
        have q1 : Q (.str d.py.shown) H := q.sc u fun _ => .str _
        have ff : ∃ F', Same F' H ∧ Rd K mg F' x d := by
          rcases hx with h | ⟨p, vs, es, rfl, rfl, h, r⟩ | ⟨p, b, es, rfl, rfl, dc⟩
          · exact ⟨F, u, h⟩
          · by_cases n : F p = none
            · have s1 : Same F (upd F p (.lst vs)) := s_new (Same.refl F) n
              refine ⟨upd F p (.lst vs), fun b o e => ?_, .lst upd_same (r.up s1)⟩
              by_cases z : b = p
              · subst z; rw [upd_same] at e; cases e; exact h
              · rw [upd_ne z] at e; exact u _ _ e
            · cases e : F p with
              | none => exact absurd e n
              | some o => have := u _ _ e; rw [h] at this; cases this; exact ⟨F, u, .lst e r⟩
          · cases es with
            | cons _ _ => simp [D.plainE] at c1
            | nil =>
              rcases dc with ⟨_, kvs, h, r⟩ | ⟨_, kvs, h, r⟩
              · cases r
                by_cases n : F p = none
                · refine ⟨upd F p (.dK []), fun b o e => ?_, .dK upd_same .nil⟩
                  by_cases z : b = p
                  · subst z; rw [upd_same] at e; cases e; exact h
                  · rw [upd_ne z] at e; exact u _ _ e
                · cases e : F p with
                  | none => exact absurd e n
                  | some o => have := u _ _ e; rw [h] at this; cases this; exact ⟨F, u, .dK e .nil⟩
              · cases r
                by_cases n : F p = none
                · refine ⟨upd F p (.dT []), fun b o e => ?_, .dT upd_same .nil⟩
                  by_cases z : b = p
                  · subst z; rw [upd_same] at e; cases e; exact h
                  · rw [upd_ne z] at e; exact u _ _ e
                · cases e : F p with
                  | none => exact absurd e n
                  | some o => have := u _ _ e; rw [h] at this; cases this; exact ⟨F, u, .dT e .nil⟩
        obtain ⟨F', u', r'⟩ := ff
        exact ⟨x, F', d, rfl, u', r', c1, c2.1.1, c2.1.2, by rw [sizeLine_eq]; exact c2.2, q1⟩
      · exact q.elim
  · exact q.elim
theorem d_list : CaD K mg (rListV K) O.list := by
  intro F H xs ds Q u r q
  unfold O.list at q
  split at q
  · match xs, r with
    | [x], .cons hx .nil =>
      obtain ⟨a, vs, rfl, h1, r1⟩ := hx.lst u
      exact g_listSq (.inl (sq_of h1)) fun p np => q p _ np r1
  · match xs, r with
    | [x], .cons hx .nil =>
      obtain ⟨a, vs, rfl, h1, r1⟩ := hx.tup u
      exact g_listSq (.inr (st_of h1)) fun p np => q p _ np r1
  · match xs, r with
    | [x], .cons hx .nil =>
      obtain ⟨a, vs, rfl, h1, r1⟩ := hx.scr u
      exact g_listSq (.inl h1) fun p np => q p _ np r1
  · match xs, r with
    | [x], .cons hx .nil =>
      cases hx.str
      split at q
      · refine g_listS (by assumption) fun p np => q p _ np ?_
        have key : ∀ l : List Nat, RdL K mg F (l.map fun c => V.str ⟨#[c]⟩) (l.map fun c => D.str ⟨#[c]⟩) := fun l => by
         induction l with
         | nil => exact .nil
         | cons c l ih => exact .cons (.str _) ih
        exact key _
      · exact q.elim
  · exact q.elim
theorem d_tuple : CaD K mg (fun xs H Q => ∃ p ys, xs = [.ref p] ∧ ((SqL K H p ys ∧ ∀ l, H l = none → Q (.ref l) (upd H l (.tup ys))) ∨ (SqT K H p ys ∧ Q (.ref p) H))) O.tuple := by
  intro F H xs ds Q u r q
  unfold O.tuple at q
  split at q
  · match xs, r with
    | [x], .cons hx .nil =>
      obtain ⟨a, vs, rfl, h1, r1⟩ := hx.lst u
      exact ⟨a, vs, rfl, .inl ⟨sq_of h1, fun p np => q.tupN u np r1⟩⟩
  · match xs, r with
    | [x], .cons hx .nil =>
      obtain ⟨a, vs, rfl, h1, r1⟩ := hx.scr u
      exact ⟨a, vs, rfl, .inl ⟨h1, fun p np => q.tupN u np r1⟩⟩
  · match xs, r with
    | [x], .cons hx .nil =>
      rcases hx with h | ⟨_, _, _, _, e, _⟩ | ⟨_, _, _, _, e, _⟩
      · obtain ⟨a, vs, rfl, h1, r1⟩ := h.inv_tup
        exact ⟨a, vs, rfl, .inr ⟨st_of (u _ _ h1), q.rd u h⟩⟩
      · cases e
      · cases e
  · exact q.elim
/-! methods of texts -/
theorem d_swapcase : MtD K mg (fun x xs H Q => ∃ a, x = .str a ∧ xs = [] ∧ a.length ≤ 5592405 ∧ Q (.str (Txt.swapcase a)) H) (fun d es => match es with | [] => O.swapcase d es | _ => none) := by
  intro F H x xs d ds Q u hx r q
  cases r with
  | cons _ _ => exact q.elim
  | nil =>
    dsimp only [O.swapcase] at q
    split at q
    · cases hx.str
      split at q
      · exact ⟨_, rfl, rfl, by assumption, q.sc u fun _ => .str _⟩
      · exact q.elim
    · exact q.elim
theorem d_upper : MtD K mg (fun x xs H Q => ∃ a, x = .str a ∧ xs = [] ∧ a.length ≤ 5592405 ∧ Q (.str (Txt.upper a)) H) (fun d es => match es with | [] => O.upper d es | _ => none) := by
  intro F H x xs d ds Q u hx r q
  cases r with
  | cons _ _ => exact q.elim
  | nil =>
    dsimp only [O.upper] at q
    split at q
    · cases hx.str
      split at q
      · exact ⟨_, rfl, rfl, by assumption, q.sc u fun _ => .str _⟩
      · exact q.elim
    · exact q.elim
theorem d_lower : MtD K mg (fun x xs H Q => ∃ a, x = .str a ∧ xs = [] ∧ a.length ≤ 5592405 ∧ Q (.str (Txt.lower a)) H) (fun d es => match es with | [] => O.lower d es | _ => none) := by
  intro F H x xs d ds Q u hx r q
  cases r with
  | cons _ _ => exact q.elim
  | nil =>
    dsimp only [O.lower] at q
    split at q
    · cases hx.str
      split at q
      · exact ⟨_, rfl, rfl, by assumption, q.sc u fun _ => .str _⟩
      · exact q.elim
    · exact q.elim
theorem d_join : MtD K mg (rJoin K) O.join := by
  intro F H x xs d ds Q u hx r q
  unfold O.join at q
  split at q
  · cases hx.str
    split at q
    · rename_i l e
      split at q
      · match xs, r with
        | [y], .cons hy .nil =>
          obtain ⟨a, vs, rfl, h1, r1⟩ := hy.lst u
          rw [r1.strs e] at h1
          exact g_joinK (sq_of h1) (by omega) (q.sc u fun _ => .str _)
      · exact q.elim
    · exact q.elim
  · exact q.elim
theorem d_index : MtD K mg (fun x xs H Q => ∃ a b i rest, x = .str a ∧ xs = [.str b] ∧ Builtin.Str.occurrences a b 0 a.length 1 = i :: rest ∧ Q (.int (i : Nat)) H) O.index := by
  intro F H x xs d ds Q u hx r q
  unfold O.index at q
  split at q
  · cases hx.str
    split at q
    · rename_i i rest e
      match xs, r with
      | [y], .cons hy .nil =>
        cases hy.str
        exact ⟨_, _, i, rest, rfl, rfl, e, q.sc u fun _ => .int _⟩
    · exact q.elim
  · exact q.elim
end
end Dx

namespace Dx
open PySem PySem.Spec PyProof.Rows L2 Hx
theorem peOr {X : Cx} {e : Expr} {t u : TE} (h : PE X e t) (k : PE X e u) : PE X e (fun σ H Q => t σ H Q ∨ u σ H Q) := ⟨fun pins s σ H Q I q => q.elim (h.run pins s σ H Q I) (k.run pins s σ H Q I)⟩
theorem psOr {X : Cx} {e : Stmt} {t u : TS} (h : PS X e t) (k : PS X e u) : PS X e (fun Y σ H => t Y σ H ∨ u Y σ H) := ⟨fun pins s σ H Y I q => q.elim (h.run pins s σ H Y I) (k.run pins s σ H Y I)⟩
theorem piOr {X : Cx} {tg e : Expr} {t u : TI} (h : PI X tg e t) (k : PI X tg e u) : PI X tg e (fun σ H R => t σ H R ∨ u σ H R) := ⟨fun pins s σ H R I q => q.elim (h.run pins s σ H R I) (k.run pins s σ H R I)⟩
namespace O
def isBl : D → D → Option W
  | .bl a, .bl b => wb (decide (a = b))
  | _, _ => none
def notBl : D → D → Option W
  | .bl a, .bl b => wb (!decide (a = b))
  | _, _ => none
end O
abbrev PM := Env → Z (Option Int)
namespace E
@[simp] def noP (ρ : Env) : Z (Option Int) := .ok none ρ
def partR : W → Env → Z (Option Int)
  | .t (.int i), ρ => .ok (some i) ρ
  | _, _ => .bad
@[simp] def part (e : EM) (ρ : Env) : Z (Option Int) := (e ρ).bind fun w ρ1 => partR w ρ1
@[simp] def sl (e : EM) (lo hi : PM) (ρ : Env) : Z W := (e ρ).bind fun w ρ1 => (lo ρ1).bind fun l ρ2 => (hi ρ2).bind fun h ρ3 => ap1 (O.sl l h) (pk w.st ρ3) ρ3
def revR : Option D → Env → Z W
  | some (.str z), ρ => toW (O.rev (.str z)) ρ
  | some (.lst ds), ρ => .ok (.f ds.reverse) ρ
  | _, _ => .bad
@[simp] def rev (e : EM) (ρ : Env) : Z W := (e ρ).bind fun w ρ1 => revR (pk w.st ρ1) ρ1
def m0R (f : D → List D → Option W) : W → Env → Z W
  | .t (.str z), ρ => toW (f (.str z) []) ρ
  | _, _ => .bad
@[simp] def m0 (f : D → List D → Option W) (o : EM) (ρ : Env) : Z W := (o ρ).bind fun w ρ1 => m0R f w ρ1
def m1S (f : D → List D → Option W) (z : Str) : Option D → Env → Z W
  | some d, ρ => toW (f (.str z) [d]) ρ
  | none, _ => .bad
def m1R (f : D → List D → Option W) (e : EM) : W → Env → Z W
  | .t (.str z), ρ => (e ρ).bind fun w2 ρ2 => m1S f z (pk w2.st ρ2) ρ2
  | _, _ => .bad
@[simp] def m1 (f : D → List D → Option W) (o e : EM) (ρ : Env) : Z W := (o ρ).bind fun w ρ1 => m1R f e w ρ1
end E
@[simp] def zipN (ns : List Str) (ds : List D) : List (Str × D) := ns.zip ds
/-- raise C(..): the fields by name, the last one first -/
@[simp] def S.raise (cn : Str) (ns : List Str) (a : AM) (ρ : Env) : Z Sig := (a ρ).bind fun ws ρ1 => (fzs ws ρ1).bind fun ds ρ2 => if ds.length = ns.length then .ex cn (ns.zip ds).reverse ρ2 else .bad
section
variable {K : PySem.W.Frag} {mg : Str → Option Value} {c : Ctx K mg} {wx : WX} {X : Cx} {e : Expr} {st : Stmt} {mas : AM} {me mb : EM}
theorem d_isBl : OpD2 K mg rIsB O.isBl := by
  intro F H x y d e Q u hx hy q
  unfold O.isBl at q
  split at q
  · cases hx.bl; cases hy.bl; exact ⟨_, _, rfl, rfl, q.sc u fun _ => .bl _⟩
  · exact q.elim
theorem d_notBl : OpD2 K mg rNotB O.notBl := by
  intro F H x y d e Q u hx hy q
  unfold O.notBl at q
  split at q
  · cases hx.bl; cases hy.bl; exact ⟨_, _, rfl, rfl, q.sc u fun _ => .bl _⟩
  · exact q.elim
/-! slices -/
def liftO (c : Ctx K mg) (wx : WX) (m : PM) : TO := fun σ H Q => ∃ F ρ, Rs c F σ H ρ ∧ Pst c wx F σ (m ρ) fun i ρ' => ∀ F' H', Same F F' → Rs c F' σ H' ρ' → Q i H'
theorem poI2 {oe : Option Expr} {t t' : TO} (h : PO X oe t) (i : ∀ σ H Q, t' σ H Q → t σ H Q) : PO X oe t' := poI h i
theorem pd_noP {oe : Option Expr} (h : PO X oe tNoPart) : PO X oe (liftO c wx E.noP) := poI h fun σ H Q ⟨F, ρ, R, p⟩ => p F H (Same.refl F) R
theorem pd_part {oe : Option Expr} (h : PO X oe (tPart (liftE c wx me))) : PO X oe (liftO c wx (E.part me)) := poI h fun σ H Q ⟨F, ρ, R, p⟩ => ⟨F, ρ, R, (Pst.bnd p).im fun w ρ1 p x F1 H1 s1 R1 r1 => by
  cases w with
  | t d =>
    cases d with
    | int i => exact ⟨i, Rd.inv_int r1, p F1 H1 s1 R1⟩
    | _ => exact p.elim
  | _ => exact p.elim⟩
theorem lift_sl {lo hi : PM} (σ : L2.St) (H : Hp) (Q : VK) (h : liftE c wx (E.sl me lo hi) σ H Q) : tSl (rSlUT K) (liftE c wx me) (liftO c wx lo) (liftO c wx hi) σ H Q := by
  obtain ⟨F, ρ, R, p⟩ := h
  refine ⟨F, ρ, R, p.bnd.im fun w1 ρ1 p x F1 H1 s1 R1 r1 => ?_⟩
  obtain ⟨F1', s1', R1', r1'⟩ := r1.toSt R1
  refine ⟨F1', ρ1, R1', p.bnd.up (s1.trans s1') fun l ρ2 p F2 H2 s2 R2 => ?_⟩
  refine ⟨F2, ρ2, R2, p.bnd.up ((s1.trans s1').trans s2) fun h ρ3 p F3 H3 s3 R3 => ?_⟩
  have r3 : RdW c F3 σ H3 ρ3 x w1.st := r1'.st_up (s2.trans s3) (by cases w1 <;> rfl)
  have sA := ((s1.trans s1').trans s2).trans s3
  cases ek : pk w1.st ρ3 with
  | none => rw [ek] at p; exact p.elim
  | some d =>
    rw [ek] at p
    exact d_sl F3 H3 x d Q R3.up (R3.pk r3 (by cases w1 <;> rfl) ek) (R3.res (Pst.up sA p fun w ρ' k x F' H' s => k x F' H' (sA.trans s)))
theorem pd_sl {lo hi : PM} (h : PE X e (tSl (rSlUT K) (liftE c wx me) (liftO c wx lo) (liftO c wx hi))) : PE X e (liftE c wx (E.sl me lo hi)) := pd_of h lift_sl
theorem lift_rev (σ : L2.St) (H : Hp) (Q : VK) (h : liftE c wx (E.rev me) σ H Q) : tRevS (liftE c wx me) σ H Q ∨ tRevL K (liftE c wx me) σ H Q := by
  obtain ⟨F, ρ, R, p⟩ := h
  cases em : me ρ with
  | bad => have p := p.bnd; rw [em] at p; exact p.elim
  | ex cn fs ρ1 => have p := p.bnd; rw [em] at p; exact .inl ⟨F, ρ, R, by rw [em]; exact p⟩
  | ok w ρ1 =>
    have p := p.bnd; rw [em] at p
    have p : Pst c wx F σ (E.revR (pk w.st ρ1) ρ1) fun w ρ' => ∀ x F' H', Same F F' → Rs c F' σ H' ρ' → RdW c F' σ H' ρ' x w → Q x H' := p
    cases ek : pk w.st ρ1 with
    | none => rw [ek] at p; exact p.elim
    | some d =>
      rw [ek] at p
      cases d with
      | str z =>
        refine .inl ⟨F, ρ, R, ?_⟩
        rw [em]
        intro x F1 H1 s1 R1 r1
        obtain ⟨F2, s2, R2, r2⟩ := r1.toSt R1
        have hx := (R2.pk r2 (by cases w <;> rfl) ek).str
        subst hx
        have q := R2.res (Pst.up (s1.trans s2) p fun w ρ' k x F' H' s => k x F' H' ((s1.trans s2).trans s))
        unfold O.rev at q
        dsimp only at q
        by_cases l : z.length ≤ 16000000
        · rw [if_pos l] at q
          exact ⟨z, rfl, by rw [sizeLine_eq]; omega, q.sc R2.up fun _ => .str _⟩
        · rw [if_neg l] at q; exact q.elim
      | lst ds =>
        refine .inr ⟨F, ρ, R, ?_⟩
        rw [em]
        intro x F1 H1 s1 R1 r1
        obtain ⟨F2, s2, R2, r2⟩ := r1.toSt R1
        obtain ⟨a, vs, rfl, h1, rr⟩ := (R2.pk r2 (by cases w <;> rfl) ek).lst R2.up
        refine ⟨a, vs, rfl, sq_of h1, fun q nq => ?_⟩
        exact p _ F2 _ (s1.trans s2) (R2.alloc nq) ⟨q, vs.reverse, rfl, R2.up.free nq, R2.none0 nq, upd_same, rr.rev, R2.noio nq, R2.notOwn nq⟩
      | _ => exact p.elim
theorem pd_rev (h : PE X e (fun σ H Q => tRevS (liftE c wx me) σ H Q ∨ tRevL K (liftE c wx me) σ H Q)) : PE X e (liftE c wx (E.rev me)) := pd_of h lift_rev
theorem lift_m0 {r : V → List V → Hp → VK → Prop} {f : D → List D → Option W} (hf : MtD K mg r f) (σ : L2.St) (H : Hp) (Q : VK) (h : liftE c wx (E.m0 f me) σ H Q) : tM0 r (liftE c wx me) σ H Q := by
  obtain ⟨F, ρ, R, p⟩ := h
  refine ⟨F, ρ, R, p.bnd.im fun w1 ρ1 p x F1 H1 s1 R1 r1 => ?_⟩
  cases w1 with
  | t d =>
    cases d with
    | str z =>
      have hx := Rd.inv_str r1
      subst hx
      exact ⟨⟨z, rfl⟩, hf F1 H1 _ [] (.str z) [] Q R1.up (.inl (.str z)) .nil (R1.res (Pst.up s1 p fun w ρ' k x F' H' s => k x F' H' (s1.trans s)))⟩
    | _ => exact p.elim
  | _ => exact p.elim
theorem pd_m0 {r : V → List V → Hp → VK → Prop} {f : D → List D → Option W} (hf : MtD K mg r f) (h : PE X e (tM0 r (liftE c wx me))) : PE X e (liftE c wx (E.m0 f me)) := pd_of h (lift_m0 hf)
theorem lift_m1 {r : V → List V → Hp → VK → Prop} {f : D → List D → Option W} (hf : MtD K mg r f) (σ : L2.St) (H : Hp) (Q : VK) (h : liftE c wx (E.m1 f me mb) σ H Q) : tM1 r (liftE c wx me) (liftE c wx mb) σ H Q := by
  obtain ⟨F, ρ, R, p⟩ := h
  refine ⟨F, ρ, R, p.bnd.im fun w1 ρ1 p x F1 H1 s1 R1 r1 => ?_⟩
  cases w1 with
  | t d =>
    cases d with
    | str z =>
      have hx := Rd.inv_str r1
      subst hx
      refine ⟨⟨z, rfl⟩, F1, ρ1, R1, Pst.up s1 (Pst.bnd p) fun w2 ρ2 p y F2 H2 s2 R2 r2 => ?_⟩
      obtain ⟨F3, s3, R3, r3⟩ := r2.toSt R2
      cases ek : pk w2.st ρ2 with
      | none => rw [ek] at p; exact p.elim
      | some d =>
        rw [ek] at p
        exact hf F3 H2 _ [y] (.str z) [d] Q R3.up (.inl (.str z)) (.cons (R3.pk r3 (by cases w2 <;> rfl) ek) .nil) (R3.res (Pst.up ((s1.trans s2).trans s3) p fun w ρ' k x F' H' s => k x F' H' (((s1.trans s2).trans s3).trans s)))
    | _ => exact p.elim
  | _ => exact p.elim
theorem pd_m1 {r : V → List V → Hp → VK → Prop} {f : D → List D → Option W} (hf : MtD K mg r f) (h : PE X e (tM1 r (liftE c wx me) (liftE c wx mb))) : PE X e (liftE c wx (E.m1 f me mb)) := pd_of h (lift_m1 hf)
/-! raise -/
theorem Rs.newX {F H : Hp} {σ : L2.St} {ρ : Env} {d : Addr} {fsV : List (Str × V)} (R : Rs c F σ H ρ) (n : H d = none) : Rs c (upd F d (.xd fsV)) σ (upd H d (.xd fsV)) ρ ∧ Same F (upd F d (.xd fsV)) := by
  have a := Adv.put (o := .xd fsV) R.up n
  exact ⟨R.adv a, a.ff⟩
theorem lift_raise1 {cn f : Str} {C : Addr} (hm : mg cn = some (.ref C)) (Y : Ends) (σ : L2.St) (H : Hp) (h : liftS c wx (S.raise cn [f] mas) Y σ H) : tMkO C (sp_in1 C f) [] (liftA c wx mas) σ H fun cls d H' => wx cls d σ H' := by
  obtain ⟨F, ρ, R, p⟩ := h
  refine liftA_fz ⟨F, ρ, R, p, fun ds ρ2 xs F2 H2 s2 R2 r2 p => ?_⟩
  match ds, r2, p with
  | [d], .cons (v := v) r0 .nil, p =>
    dsimp only [List.length_cons, List.length_nil, List.zip_cons_cons, List.zip_nil_right, List.reverse_cons, List.reverse_nil, List.nil_append] at p
    rw [if_pos rfl] at p
    refine g_mk1 (f := f) (C := C) (v := v) (G := H2) (Q := fun cls d H' => wx cls d σ H') fun a na => ?_
    obtain ⟨R3, s3⟩ := R2.newX (fsV := [(f, v)]) na
    exact p C a [(f, v)] _ _ σ hm s3 R3 upd_same (.cons (r0.up s3) .nil)
  | [], .nil, p => exact p.elim
  | _ :: _ :: _, .cons _ (.cons _ _), p => rw [if_neg (by simp)] at p; exact p.elim
theorem lift_raise2 {cn f f2 : Str} {C : Addr} (hm : mg cn = some (.ref C)) (Y : Ends) (σ : L2.St) (H : Hp) (h : liftS c wx (S.raise cn [f, f2] mas) Y σ H) : tMkO C (sp_in2 C f f2) [] (liftA c wx mas) σ H fun cls d H' => wx cls d σ H' := by
  obtain ⟨F, ρ, R, p⟩ := h
  refine liftA_fz ⟨F, ρ, R, p, fun ds ρ2 xs F2 H2 s2 R2 r2 p => ?_⟩
  match ds, r2, p with
  | [d, d2], .cons (v := v) r0 (.cons (v := v2) r1 .nil), p =>
    dsimp only [List.length_cons, List.length_nil, List.zip_cons_cons, List.zip_nil_right, List.reverse_cons, List.reverse_nil, List.nil_append, List.cons_append] at p
    rw [if_pos rfl] at p
    refine g_mk2 (f := f) (f2 := f2) (C := C) (v := v) (v2 := v2) (G := H2) (Q := fun cls d H' => wx cls d σ H') fun a na => ?_
    obtain ⟨R3, s3⟩ := R2.newX (fsV := [(f2, v2), (f, v)]) na
    exact p C a [(f2, v2), (f, v)] _ _ σ hm s3 R3 upd_same (.cons (r1.up s3) (.cons (r0.up s3) .nil))
  | [], .nil, p => exact p.elim
  | [_], .cons _ .nil, p => rw [if_neg (by simp)] at p; exact p.elim
  | _ :: _ :: _ :: _, .cons _ (.cons _ (.cons _ _)), p => rw [if_neg (by simp)] at p; exact p.elim
theorem pd_raise1 {cn f : Str} {C : Addr} (hm : mg cn = some (.ref C)) (h : PS X st (fun _ σ H => tMkO C (sp_in1 C f) [] (liftA c wx mas) σ H fun cls d H' => wx cls d σ H')) : PS X st (liftS c wx (S.raise cn [f] mas)) := psI h fun Y σ H q => lift_raise1 hm Y σ H q
theorem pd_raise2 {cn f f2 : Str} {C : Addr} (hm : mg cn = some (.ref C)) (h : PS X st (fun _ σ H => tMkO C (sp_in2 C f f2) [] (liftA c wx mas) σ H fun cls d H' => wx cls d σ H')) : PS X st (liftS c wx (S.raise cn [f, f2] mas)) := psI h fun Y σ H q => lift_raise2 hm Y σ H q
end
/-! ## sources -/
namespace I
@[simp] def of (e : EM) (ρ : Env) : Z (List D) := (e ρ).bind fun w ρ1 => (fz w ρ1).bind fun d ρ2 => toZ (itemsOf d) ρ2
def enD (zs : List D) : List D := zs.zipIdx.map fun p => .tup [.int (p.2 : Nat), p.1]
def enR : List D → Env → Z (List D)
  | [.lst zs], ρ => .ok (enD zs) ρ
  | [.tup zs], ρ => .ok (enD zs) ρ
  | [.scr zs], ρ => .ok (enD zs) ρ
  | _, _ => .bad
@[simp] def enum (a : AM) (ρ : Env) : Z (List D) := (a ρ).bind fun ws ρ1 => (fzs ws ρ1).bind fun ds ρ2 => enR ds ρ2
def ziD (xs ys : List D) : List D := List.zipWith (fun x y => .tup [x, y]) xs ys
def ziR : List D → Env → Z (List D)
  | [.lst xs, .lst ys], ρ => .ok (ziD xs ys) ρ
  | _, _ => .bad
@[simp] def zip (a : AM) (ρ : Env) : Z (List D) := (a ρ).bind fun ws ρ1 => (fzs ws ρ1).bind fun ds ρ2 => ziR ds ρ2
/-- lo, lo + 1, .., n of them -/
def upD (lo : Int) (n : Nat) : List D := (List.range n).map fun i => .int (lo + (i : Nat))
def dnD (hi : Int) (n : Nat) : List D := (List.range n).map fun i => .int (hi - (i : Nat))
def r1R : List D → Env → Z (List D)
  | [.int j], ρ => if -(2 ^ 62) ≤ j ∧ j < 2 ^ 62 then .ok (upD 0 j.toNat) ρ else .bad
  | _, _ => .bad
def r2R : List D → Env → Z (List D)
  | [.int i, .int j], ρ => if -(2 ^ 62) ≤ i ∧ i < 2 ^ 62 ∧ -(2 ^ 62) ≤ j ∧ j < 2 ^ 62 then .ok (upD i (j - i).toNat) ρ else .bad
  | _, _ => .bad
def r3R : List D → Env → Z (List D)
  | [.int i, .int j, .int (-1)], ρ => if -(2 ^ 62) ≤ i ∧ i < 2 ^ 62 ∧ -(2 ^ 62) ≤ j ∧ j < 2 ^ 62 then .ok (dnD i (i - j).toNat) ρ else .bad
  | _, _ => .bad
@[simp] def rng1 (a : AM) (ρ : Env) : Z (List D) := (a ρ).bind fun ws ρ1 => (fzs ws ρ1).bind fun ds ρ2 => r1R ds ρ2
@[simp] def rng2 (a : AM) (ρ : Env) : Z (List D) := (a ρ).bind fun ws ρ1 => (fzs ws ρ1).bind fun ds ρ2 => r2R ds ρ2
/-- range(i, j, -1) -/
@[simp] def rng3 (a : AM) (ρ : Env) : Z (List D) := (a ρ).bind fun ws ρ1 => (fzs ws ρ1).bind fun ds ρ2 => r3R ds ρ2
end I
section
variable {K : PySem.W.Frag} {mg : Str → Option Value} {c : Ctx K mg} {wx : WX} {X : Cx} {tg e : Expr} {mas : AM} {me : EM}
/-- from a walk to the steps -/
theorem steps_of {J : It} {n : Nat} {G : Hp → Prop} {Y : Nat → Hp → V → Hp → Prop} {ds : List D} {F0 : Hp} (w : Walk J n G Y) (hn : n = ds.length) (hG : ∀ F H, Same F0 F → Same F H → G H) (hY : ∀ i F H x H', Same F0 F → Same F H → i < ds.length → Y i H x H' → ∃ F', Adv F H F' H' ∧ ∀ d, ds[i]? = some d → Rd K mg F' x d) : Steps c J ds F0 := by
  subst hn
  intro i F H s u
  have g := hG F H s u
  exact ⟨fun l => ⟨w.goes i H l g, fun x H' y => hY i F H x H' s u l (w.yields i H x H' l g y)⟩, fun e => by subst e; exact w.stops H g⟩
theorem steps_at {J : It} {vs : List V} {ds : List D} {G : Hp → Prop} {F0 : Hp} (w : Walk J vs.length G (YAt vs)) (r : RdL K mg F0 vs ds) (hG : ∀ F H, Same F0 F → Same F H → G H) : Steps c J ds F0 :=
  steps_of w r.len hG fun i F H x H' s u l ⟨e, ex⟩ => by
    subst e
    refine ⟨F, Adv.refl u, fun d ed => ?_⟩
    obtain ⟨v, ev, rv⟩ := r.get ed
    rw [ex] at ev; cases ev
    exact rv.up s
theorem steps_pair {J : It} {n : Nat} {ds : List D} {G : Hp → Prop} {F0 : Hp} {xs ys : Nat → Option V} {dx dy : Nat → Option D} (w : Walk J n G (YPair xs ys)) (hn : n = ds.length) (hG : ∀ F H, Same F0 F → Same F H → G H)
    (hd : ∀ i d, ds[i]? = some d → ∃ a b, dx i = some a ∧ dy i = some b ∧ d = .tup [a, b]) (h1 : ∀ i x a, xs i = some x → dx i = some a → Rd K mg F0 x a) (h2 : ∀ i x a, ys i = some x → dy i = some a → Rd K mg F0 x a) : Steps c J ds F0 :=
  steps_of w hn hG fun i F H x H' s u l ⟨T, v1, v2, e1, nT, e2, e3, e4⟩ => by
    subst e1 e2
    have a := Adv.put (o := .tup [v1, v2]) u nT
    refine ⟨_, a, fun d ed => ?_⟩
    obtain ⟨d1, d2, q1, q2, rfl⟩ := hd i d ed
    exact .tup upd_same (.cons ((h1 i _ _ e3 q1).up (s.trans a.ff)) (.cons ((h2 i _ _ e4 q2).up (s.trans a.ff)) .nil))
theorem steps_fn {J : It} {n : Nat} {ds : List D} {G : Hp → Prop} {F0 : Hp} {f : Nat → V} (w : Walk J n G (YFn f)) (hn : n = ds.length) (hG : ∀ H, G H) (hd : ∀ F i d, ds[i]? = some d → Rd K mg F (f i) d) : Steps c J ds F0 :=
  steps_of w hn (fun _ H _ _ => hG H) fun i F H x H' s u l ⟨e, ex⟩ => by
    subst e ex
    exact ⟨F, Adv.refl u, fun d ed => hd F i d ed⟩
theorem lift_of (σ : L2.St) (H : Hp) (R : It → Hp → Prop) (h : liftI c wx (I.of me) σ H R) : iAny K (liftE c wx me) σ H R := by
  obtain ⟨F, ρ, R0, p⟩ := h
  refine ⟨F, ρ, R0, p.bnd.im fun w ρ1 p x F1 H1 s1 R1 r1 => ?_⟩
  cases e : fz w ρ1 with
  | bad => rw [e] at p; exact p.elim
  | ex _ _ _ => exact absurd e fz_ne
  | ok d ρ2 =>
    rw [e] at p
    obtain ⟨F2, s2, R2, r2⟩ := fz_ok R1 r1 e
    cases d with
    | lst ds =>
      obtain ⟨a, vs, rfl, h, rl⟩ := r2.inv_lst
      exact .inl ⟨a, rfl, ⟨vs, sq_of (R2.up _ _ h)⟩, p _ F2 H1 (s1.trans s2) R2 (steps_at walk_list rl fun F H s u => sq_of (u _ _ (s _ _ h)))⟩
    | tup ds =>
      obtain ⟨a, vs, rfl, h, rl⟩ := r2.inv_tup
      exact .inr (.inl ⟨a, rfl, ⟨vs, st_of (R2.up _ _ h)⟩, p _ F2 H1 (s1.trans s2) R2 (steps_at walk_tup rl fun F H s u => st_of (u _ _ (s _ _ h)))⟩)
    | scr ds =>
      cases r2 with
      | @scr a vs _ h rl =>
        exact .inl ⟨a, rfl, ⟨vs, R2.up.seq h⟩, p _ F2 H1 (s1.trans s2) R2 (steps_at walk_list rl fun F H s u => u.seq (s.seq h))⟩
    | str z =>
      have hx := r2.inv_str
      subst hx
      refine .inr (.inr ⟨z, rfl, p _ F2 H1 (s1.trans s2) R2 (steps_of walk_str (by simp) (fun _ _ _ _ => trivial) fun i F H x H' s u l ⟨e, k, ek, ex⟩ => ?_)⟩)
      subst e ex
      refine ⟨F, Adv.refl u, fun d ed => ?_⟩
      rw [List.getElem?_map, Array.getElem?_toList, ek] at ed
      cases ed
      exact .str _
    | _ => exact p.elim
theorem pd_iof (h : PI X tg e (iAny K (liftE c wx me))) : PI X tg e (liftI c wx (I.of me)) := piI h lift_of
theorem liftA_I {k : List D → Env → Z (List D)} (σ : L2.St) (H : Hp) (R : It → Hp → Prop) {G : List V → Hp → Prop} (h : liftI c wx (fun ρ => (mas ρ).bind fun ws ρ1 => (fzs ws ρ1).bind k) σ H R)
    (go : ∀ ds ρ2 xs F2 H2, Rs c F2 σ H2 ρ2 → RdL K mg F2 xs ds → Pst c wx F2 σ (k ds ρ2) (fun ds ρ' => ∀ J F' H', Same F2 F' → Rs c F' σ H' ρ' → Steps c J ds F' → R J H') → G xs H2) : liftA c wx mas σ H G := by
  obtain ⟨F, ρ, R0, p⟩ := h
  refine liftA_fz ⟨F, ρ, R0, p, fun ds ρ2 xs F2 H2 s2 R2 r2 p => go ds ρ2 xs F2 H2 R2 r2 (p.im fun ds ρ' k J F' H' s => k J F' H' (s2.trans s))⟩
theorem enum_at {zs : List D} {i : Nat} {d : D} (h : (I.enD zs)[i]? = some d) : ∃ a b, (some (D.int (i : Nat)) : Option D) = some a ∧ zs[i]? = some b ∧ d = .tup [a, b] := by
  unfold I.enD at h
  rw [List.getElem?_map, List.getElem?_zipIdx] at h
  cases e : zs[i]? with
  | none => rw [e] at h; cases h
  | some z => rw [e] at h; simp at h; exact ⟨_, z, rfl, rfl, h.symm⟩
theorem lift_enum (σ : L2.St) (H : Hp) (R : It → Hp → Prop) (h : liftI c wx (I.enum mas) σ H R) : iEnA K (liftA c wx mas) σ H R := by
  refine liftA_I σ H R h fun ds ρ2 xs F2 H2 R2 r2 p => ?_
  unfold I.enR at p
  split at p
  · match xs, r2 with
    | [x], .cons r0 .nil =>
      obtain ⟨a, vs, rfl, h, rl⟩ := r0.inv_lst
      exact .inl ⟨a, vs, rfl, sq_of (R2.up _ _ h), p _ F2 H2 (Same.refl _) R2 (steps_pair (dx := fun i => some (.int (i : Nat))) (dy := fun i => _) walk_enum (by rw [rl.len]; simp [I.enD]) (fun F H s u => sq_of (u _ _ (s _ _ h))) (fun i d hd => enum_at hd) (fun i x a e1 e2 => by cases e1; cases e2; exact .int _) (fun i x a e1 e2 => by
        obtain ⟨v, ev, rv⟩ := rl.get e2; rw [e1] at ev; cases ev; exact rv))⟩
  · match xs, r2 with
    | [x], .cons r0 .nil =>
      obtain ⟨a, vs, rfl, h, rl⟩ := r0.inv_tup
      exact .inr ⟨a, vs, rfl, st_of (R2.up _ _ h), p _ F2 H2 (Same.refl _) R2 (steps_pair (dx := fun i => some (.int (i : Nat))) (dy := fun i => _) walk_enT (by rw [rl.len]; simp [I.enD]) (fun F H s u => st_of (u _ _ (s _ _ h))) (fun i d hd => enum_at hd) (fun i x a e1 e2 => by cases e1; cases e2; exact .int _) (fun i x a e1 e2 => by
        obtain ⟨v, ev, rv⟩ := rl.get e2; rw [e1] at ev; cases ev; exact rv))⟩
  · match xs, r2 with
    | [x], .cons r0 .nil =>
      cases r0 with
      | @scr a vs _ h rl =>
        exact .inl ⟨a, vs, rfl, R2.up.seq h, p _ F2 H2 (Same.refl _) R2 (steps_pair (dx := fun i => some (.int (i : Nat))) (dy := fun i => _) walk_enum (by rw [rl.len]; simp [I.enD]) (fun F H s u => u.seq (s.seq h)) (fun i d hd => enum_at hd) (fun i x a e1 e2 => by cases e1; cases e2; exact .int _) (fun i x a e1 e2 => by
          obtain ⟨v, ev, rv⟩ := rl.get e2; rw [e1] at ev; cases ev; exact rv))⟩
  · exact p.elim
theorem pd_enum (h : PI X tg e (iEnA K (liftA c wx mas))) : PI X tg e (liftI c wx (I.enum mas)) := piI h lift_enum
theorem lift_zip (σ : L2.St) (H : Hp) (R : It → Hp → Prop) (h : liftI c wx (I.zip mas) σ H R) : iZip K (liftA c wx mas) σ H R := by
  refine liftA_I σ H R h fun ds ρ2 xs F2 H2 R2 r2 p => ?_
  unfold I.ziR at p
  split at p
  · rename_i dx dy
    match xs, r2 with
    | [x, y], .cons r0 (.cons r1 .nil) =>
      obtain ⟨a, vs, rfl, h, rl⟩ := r0.inv_lst
      obtain ⟨b, ws, rfl, h2, rl2⟩ := r1.inv_lst
      refine ⟨a, b, vs, ws, rfl, sq_of (R2.up _ _ h), sq_of (R2.up _ _ h2), p _ F2 H2 (Same.refl _) R2 (steps_pair (dx := fun i => dx[i]?) (dy := fun i => dy[i]?) (walk_zip rfl) (by rw [rl.len, rl2.len]; simp [I.ziD]) (fun F H s u => ⟨sq_of (u _ _ (s _ _ h)), sq_of (u _ _ (s _ _ h2))⟩) (fun i d hd => ?_) (fun i x a e1 e2 => ?_) (fun i x a e1 e2 => ?_))⟩
      · unfold I.ziD at hd
        rw [List.getElem?_zipWith] at hd
        cases e1 : dx[i]? with
        | none => rw [e1] at hd; cases hd
        | some d1 =>
          cases e2 : dy[i]? with
          | none => rw [e1, e2] at hd; cases hd
          | some d2 => rw [e1, e2] at hd; cases hd; exact ⟨d1, d2, rfl, rfl, rfl⟩
      · obtain ⟨v, ev, rv⟩ := rl.get e2; rw [e1] at ev; cases ev; exact rv
      · obtain ⟨v, ev, rv⟩ := rl2.get e2; rw [e1] at ev; cases ev; exact rv
  · exact p.elim
theorem pd_zip (h : PI X tg e (iZip K (liftA c wx mas))) : PI X tg e (liftI c wx (I.zip mas)) := piI h lift_zip
theorem lift_rng1 (σ : L2.St) (H : Hp) (R : It → Hp → Prop) (h : liftI c wx (I.rng1 mas) σ H R) : iRng1 (liftA c wx mas) σ H R := by
  refine liftA_I σ H R h fun ds ρ2 xs F2 H2 R2 r2 p => ?_
  unfold I.r1R at p
  split at p
  · rename_i j
    match xs, r2 with
    | [x], .cons r0 .nil =>
      have hx := r0.inv_int
      subst hx
      by_cases l : -(2 ^ 62) ≤ j ∧ j < 2 ^ 62
      · rw [if_pos l] at p
        refine ⟨j, rfl, l.1, l.2, p _ F2 H2 (Same.refl _) R2 (steps_fn walk_range (by simp [I.upD]) (fun _ => trivial) fun F i d hd => ?_)⟩
        simp only [I.upD, I.dnD] at hd
        rw [List.getElem?_map] at hd
        by_cases li : i < j.toNat
        · rw [List.getElem?_range li] at hd; cases hd; exact .int _
        · rw [List.getElem?_eq_none (by simp; omega)] at hd; cases hd
      · rw [if_neg l] at p; exact p.elim
  · exact p.elim
theorem pd_rng1 (h : PI X tg e (iRng1 (liftA c wx mas))) : PI X tg e (liftI c wx (I.rng1 mas)) := piI h lift_rng1
theorem lift_rng2 (σ : L2.St) (H : Hp) (R : It → Hp → Prop) (h : liftI c wx (I.rng2 mas) σ H R) : iRng2 (liftA c wx mas) σ H R := by
  refine liftA_I σ H R h fun ds ρ2 xs F2 H2 R2 r2 p => ?_
  unfold I.r2R at p
  split at p
  · rename_i i0 j
    match xs, r2 with
    | [x, y], .cons r0 (.cons r1 .nil) =>
      have hx := r0.inv_int
      subst hx
      have hy := r1.inv_int
      subst hy
      by_cases l : -(2 ^ 62) ≤ i0 ∧ i0 < 2 ^ 62 ∧ -(2 ^ 62) ≤ j ∧ j < 2 ^ 62
      · rw [if_pos l] at p
        refine ⟨i0, j, rfl, l, p _ F2 H2 (Same.refl _) R2 (steps_fn walk_range (by simp [I.upD]) (fun _ => trivial) fun F i d hd => ?_)⟩
        simp only [I.upD, I.dnD] at hd
        rw [List.getElem?_map] at hd
        by_cases li : i < (j - i0).toNat
        · rw [List.getElem?_range li] at hd; cases hd; exact .int _
        · rw [List.getElem?_eq_none (by simp; omega)] at hd; cases hd
      · rw [if_neg l] at p; exact p.elim
  · exact p.elim
theorem pd_rng2 (h : PI X tg e (iRng2 (liftA c wx mas))) : PI X tg e (liftI c wx (I.rng2 mas)) := piI h lift_rng2
theorem lift_rng3 (σ : L2.St) (H : Hp) (R : It → Hp → Prop) (h : liftI c wx (I.rng3 mas) σ H R) : iRng3 (liftA c wx mas) σ H R := by
  refine liftA_I σ H R h fun ds ρ2 xs F2 H2 R2 r2 p => ?_
  unfold I.r3R at p
  split at p
  · rename_i i0 j
    match xs, r2 with
    | [x, y, z], .cons r0 (.cons r1 (.cons r3 .nil)) =>
      have hx := r0.inv_int
      subst hx
      have hy := r1.inv_int
      subst hy
      have hz := r3.inv_int
      subst hz
      by_cases l : -(2 ^ 62) ≤ i0 ∧ i0 < 2 ^ 62 ∧ -(2 ^ 62) ≤ j ∧ j < 2 ^ 62
      · rw [if_pos l] at p
        refine ⟨i0, j, -1, (i0 - j).toNat, rfl, RgC.neg l.1 l.2.1 l.2.2.1 l.2.2.2, p _ F2 H2 (Same.refl _) R2 (steps_fn walk_rangeC (by simp [I.dnD]) (fun _ => trivial) fun F i d hd => ?_)⟩
        simp only [I.upD, I.dnD] at hd
        rw [List.getElem?_map] at hd
        by_cases li : i < (i0 - j).toNat
        · rw [List.getElem?_range li] at hd; cases hd; rw [show i0 + ((i : Nat) : Int) * (-1) = i0 - (i : Nat) by omega]; exact .int _
        · rw [List.getElem?_eq_none (by simp; omega)] at hd; cases hd
      · rw [if_neg l] at p; exact p.elim
  · exact p.elim
theorem pd_rng3 (h : PI X tg e (iRng3 (liftA c wx mas))) : PI X tg e (liftI c wx (I.rng3 mas)) := piI h lift_rng3
end
end Dx
namespace Dx
open PySem PySem.Spec PyProof.Rows L2 Hx
namespace M
@[simp] def swapcase (d : D) (es : List D) : Option W := match es with | [] => O.swapcase d es | _ => none
@[simp] def upper (d : D) (es : List D) : Option W := match es with | [] => O.upper d es | _ => none
@[simp] def lower (d : D) (es : List D) : Option W := match es with | [] => O.lower d es | _ => none
end M
def O.addI : D → D → Option W
  | .int a, .int b => wi (a + b)
  | _, _ => none
def parR (i j : Nat) : List D → Env → Z Sig
  | [d, e], ρ => .ok .nx ((ρ.set i (.tr d)).set j (.tr e))
  | _, _ => .bad
/-- a, b = x, y -/
@[simp] def S.par (i j : Nat) (a : AM) (ρ : Env) : Z Sig := (a ρ).bind fun ws ρ1 => (fzs ws ρ1).bind fun ds ρ2 => parR i j ds ρ2
section
variable {K : PySem.W.Frag} {mg : Str → Option Value} {c : Ctx K mg} {wx : WX} {X : Cx} {st : Stmt} {mas : AM}
theorem op_addUT (hK : X.K = K) : OpR X (binaryOp .Add) (fun x y H Q => rAddU x y H Q ∨ rCatT K x y H Q) := by subst hK; exact op_addU.or op_catT
theorem takesF : Takes X WF := fun _ _ x => by
  obtain ⟨_, _, _, _, _, _, _, _, _, _, _, _, _, _, _, _, w⟩ := x
  exact w.elim
theorem pe_revLK {e : Expr} {te : TE} {k : Nat} {p1 p2 p3 pos : Pos} (hK : X.K = K) (he : PE X e te) : PE X (.Subscript e (.Slice none none (some (.UnaryOp .USub (.Constant (.int 1) k p1) p2)) p3) pos) (tRevL K te) := hK ▸ pe_revL he
theorem pi_zipK {e e2 : Expr} {ta : TA} {p pos tpos : Pos} {elts : List Expr} {kk : Nat} (hK : X.K = K) (hg : Gl X "zip") (hm : X.mg "zip" = none) (ha : PA X [e, e2] ta)
    (hs : starEach [e, e2] X.env = (false, eval e X.env) :: starEach [e2] X.env := by rfl) (hpl : (backTo pos (starEach [e2] X.env)).any (·.1) = false := by rfl) :
    PI X (.Tuple elts kk tpos) (.Call (.Name "zip" p) [e, e2] [] pos) (iZip K ta) := hK ▸ pi_zip hg hm ha hs hpl
theorem d_addI : OpD2 K mg (ipI fun i j => i + j) O.addI := by
  intro F H x y d e Q u hx hy q
  unfold O.addI at q
  split at q
  · cases hx.int; cases hy.int; exact ⟨_, _, rfl, rfl, q.sc u fun _ => .int _⟩
  · exact q.elim
theorem d_subI : OpD2 K mg (ipI fun i j => i - j) O.sub := by
  intro F H x y d e Q u hx hy q
  unfold O.sub at q
  split at q
  · cases hx.int; cases hy.int; exact ⟨_, _, rfl, rfl, q.sc u fun _ => .int _⟩
  · exact q.elim
theorem lift_par {i j : Nat} (hij : i ≠ j) (Y : Ends) (σ : L2.St) (H : Hp) (h : liftS c wx (S.par i j mas) Y σ H) : tPar i j (liftA c wx mas) Y σ H := by
  obtain ⟨F, ρ, R, p⟩ := h
  refine liftA_fz ⟨F, ρ, R, p, fun ds ρ2 xs F2 H2 s2 R2 r2 p => ?_⟩
  match ds, r2, p with
  | [d, d2], .cons (v := v) r0 (.cons (v := v2) r1 .nil), p => exact ⟨v, v2, rfl, p _ F2 H2 s2 ((R2.setTr r0).setTr r1)⟩
  | [], .nil, p => exact p.elim
  | [_], .cons _ .nil, p => exact p.elim
  | _ :: _ :: _ :: _, .cons _ (.cons _ (.cons _ _)), p => exact p.elim
theorem pd_par {i j : Nat} (h : PS X st (tPar i j (liftA c wx mas))) (hij : i ≠ j) : PS X st (liftS c wx (S.par i j mas)) := psI h (lift_par hij)
theorem rd_ints {F : Hp} : ∀ ns : List Int, RdL K mg F (ns.map V.int) (ns.map D.int)
  | [] => .nil
  | n :: ns => .cons (.int n) (rd_ints ns)
end
end Dx
namespace Dx
open PySem PySem.Spec PyProof.Rows L2 Hx
@[simp] def E.dnew (b : Bool) (ρ : Env) : Z W := .ok (.g b []) ρ
section
variable {K : PySem.W.Frag} {mg : Str → Option Value} {c : Ctx K mg} {wx : WX} {X : Cx} {e : Expr}
theorem pd_dnewK (h : PE X e tDNewK) : PE X e (liftE c wx (E.dnew false)) := pd_of h fun σ H Q ⟨F, ρ, R, p⟩ q n =>
  p _ F _ (Same.refl F) (R.alloc n) ⟨q, rfl, R.up.free n, R.none0 n, .inl ⟨rfl, [], upd_same, .nil⟩, R.noio n, R.notOwn n⟩
theorem pd_dnewT (h : PE X e tDNewT) : PE X e (liftE c wx (E.dnew true)) := pd_of h fun σ H Q ⟨F, ρ, R, p⟩ q n =>
  p _ F _ (Same.refl F) (R.alloc n) ⟨q, rfl, R.up.free n, R.none0 n, .inr ⟨rfl, [], upd_same, .nil⟩, R.noio n, R.notOwn n⟩
end
theorem sw_cell {elt : Expr} {gs : List Comprehension} {scope : Scope} {pos py : Pos} {y : Str} {l : Nat} {env : PySem.Env} (hy : env.scope.names.lookup y = some .cell) : swapsWith (.ListComp elt gs scope pos) (some (.Name y py)) l env = pure false := by
  have ky : env.kindOf y = some .cell := hy
  unfold swapsWith
  simp only [ky]
  rw [show ((some NameKind.cell : Option NameKind) == some .local) = false from rfl, Bool.and_false, Bool.false_and, Bool.false_and]
end Dx

/-! ## targets with a star -/
namespace L2
open PySem PySem.Spec PyProof.Rows PySem.W
section
variable {prog : Program} {w : World} {A : Around} {E : Value → Shared → Prop} {s : Shared} {env : PySem.Env} {elts : List Expr} {k : Nat} {pos : Pos}
theorem starT_items {l : Addr} {items : Array Value} {n i : Nat} {Q : List Value → Shared → Prop} (hl : IsTup s.heap l items) (hh : A.handled = none) (hi : i < n) (hn : n ≤ items.size + 1) (hz : items.size ≤ sizeLine)
    (h : ∀ (h' : Heap) (tk : Nat), (∀ b o, s.heap.get? b = some o → h'.get? b = some o) → Q (items.toList.take i ++ [.ref h'.objs.size] ++ (items.toList.drop i).drop (items.size + 1 - n)) { s with heap := h'.push { cls := .type "list", data := .seq ((items.toList.drop i).take (items.size + 1 - n)).toArray }, toks := tk }) :
    wpAny (model prog w) A (unpackItems (.ref l) n (some i)) Q E s := by
  have hlt : l ≠ s.heap.objs.size := by obtain ⟨o, ho, _⟩ := hl; exact Nat.ne_of_lt (Heap.lt_size ho)
  unfold unpackItems
  refine wpAny_bind ?_
  unfold notIterableAtAll
  refine wpAny_bind (wpAny_specialOf hl.typeIs slot_tuple_iter.lookup ?_)
  refine wpAny_pure ?_
  simp only [Bool.false_eq_true, if_false]
  refine wpAny_bind (wpAny_holding (iter_tuple hl ?_))
  refine wpAny_bind (wpAny_holding (draw_tuple hlt i 0 _ _ ⟨_, Heap.get?_push_size _ rfl, rfl, rfl⟩ (hl.push _) (by omega) fun h₁ hit₁ hs₁ => ?_))
  have hl₁ : IsTup h₁ l items := (hl.push _).extBut hs₁.extBut hlt
  rw [Nat.zero_add] at hit₁
  have hit₁' := hit₁
  obtain ⟨oi, hoi, _⟩ := hit₁'
  have hl₁' := hl₁
  obtain ⟨ol, hol, _⟩ := hl₁'
  rw [List.drop_zero]
  have hfl : (items.toList.take i).length = i := by rw [List.length_take, Array.length_toList]; omega
  rw [if_neg (show ¬ ((items.toList.take i).length < i) by rw [hfl]; omega)]
  refine wpAny_bind (wpAny_holding (kun_collect (s := { s with heap := h₁ }) (T := "tuple_iterator") (.inr (.inr (.inr rfl))) (Walks.tuple (A := A.in1) hh s.heap.objs.size l hlt items) (fun j u st => st.1.typeIs) (k := i) (by omega) ⟨hit₁, hl₁⟩ (Heap.lt_size hoi) (Heap.lt_size hol) (fun h₂ tk hk => ?_) hz))
  have hrl : (items.toList.drop i).length = items.size - i := by rw [List.length_drop, Array.length_toList]
  have hmid : (items.toList.drop i).length - (n - 1 - i) = items.size + 1 - n := by rw [hrl]; omega
  show wpAny _ _ (if (items.toList.drop i).length < n - 1 - i then _ else _) _ _ _
  rw [if_neg (by rw [hrl]; omega)]
  show wpAny _ _ (newList ((items.toList.drop i).take ((items.toList.drop i).length - (n - 1 - i))) >>= fun d => pure (items.toList.take i ++ [d] ++ (items.toList.drop i).drop ((items.toList.drop i).length - (n - 1 - i)))) _ _ _
  rw [hmid]
  have he : ∀ b o, s.heap.get? b = some o → h₂.get? b = some o := fun b o e => hk b o (Nat.ne_of_lt (Heap.lt_size e)) (hs₁.extBut b o (Nat.ne_of_lt (Heap.lt_size e)) (Heap.get?_push_of_some _ e))
  exact wpAny_bind (wpAny_newList (wpAny_pure (h h₂ _ he)) (by rw [List.length_take, hrl]; omega))
theorem starL_items {l : Addr} {items : Array Value} {n i : Nat} {Q : List Value → Shared → Prop} (hl : s.heap.IsList l items) (hh : A.handled = none) (hi : i < n) (hn : n ≤ items.size + 1) (hz : items.size ≤ sizeLine)
    (h : ∀ (h' : Heap) (tk : Nat), (∀ b o, s.heap.get? b = some o → h'.get? b = some o) → Q (items.toList.take i ++ [.ref h'.objs.size] ++ (items.toList.drop i).drop (items.size + 1 - n)) { s with heap := h'.push { cls := .type "list", data := .seq ((items.toList.drop i).take (items.size + 1 - n)).toArray }, toks := tk }) :
    wpAny (model prog w) A (unpackItems (.ref l) n (some i)) Q E s := by
  have hlt : l ≠ s.heap.objs.size := by obtain ⟨o, ho, _⟩ := hl; exact Nat.ne_of_lt (Heap.lt_size ho)
  unfold unpackItems
  refine wpAny_bind ?_
  unfold notIterableAtAll
  refine wpAny_bind (wpAny_specialOf hl.typeIs slot_list_iter.lookup ?_)
  refine wpAny_pure ?_
  simp only [Bool.false_eq_true, if_false]
  refine wpAny_bind (wpAny_holding (wpAny_pyIter_list hl ?_))
  refine wpAny_bind (wpAny_holding (kun_draw hlt i 0 _ _ ⟨_, Heap.get?_push_size _ rfl, rfl, rfl⟩ (hl.push _) (by omega) fun h₁ hit₁ hs₁ => ?_))
  have hl₁ : h₁.IsList l items := (hl.push _).extBut hs₁.extBut hlt
  rw [Nat.zero_add] at hit₁
  have hit₁' := hit₁
  obtain ⟨oi, hoi, _⟩ := hit₁'
  have hl₁' := hl₁
  obtain ⟨ol, hol, _⟩ := hl₁'
  rw [List.drop_zero]
  have hfl : (items.toList.take i).length = i := by rw [List.length_take, Array.length_toList]; omega
  rw [if_neg (show ¬ ((items.toList.take i).length < i) by rw [hfl]; omega)]
  refine wpAny_bind (wpAny_holding (kun_collect (s := { s with heap := h₁ }) (T := "list_iterator") (.inr (.inr (.inl rfl))) (Walks.list (A := A.in1) hh s.heap.objs.size l hlt items) (fun j u st => st.1.typeIs) (k := i) (by omega) ⟨hit₁, hl₁⟩ (Heap.lt_size hoi) (Heap.lt_size hol) (fun h₂ tk hk => ?_) hz))
  have hrl : (items.toList.drop i).length = items.size - i := by rw [List.length_drop, Array.length_toList]
  have hmid : (items.toList.drop i).length - (n - 1 - i) = items.size + 1 - n := by rw [hrl]; omega
  show wpAny _ _ (if (items.toList.drop i).length < n - 1 - i then _ else _) _ _ _
  rw [if_neg (by rw [hrl]; omega)]
  show wpAny _ _ (newList ((items.toList.drop i).take ((items.toList.drop i).length - (n - 1 - i))) >>= fun d => pure (items.toList.take i ++ [d] ++ (items.toList.drop i).drop ((items.toList.drop i).length - (n - 1 - i)))) _ _ _
  rw [hmid]
  have he : ∀ b o, s.heap.get? b = some o → h₂.get? b = some o := fun b o e => hk b o (Nat.ne_of_lt (Heap.lt_size e)) (hs₁.extBut b o (Nat.ne_of_lt (Heap.lt_size e)) (Heap.get?_push_of_some _ e))
  exact wpAny_bind (wpAny_newList (wpAny_pure (h h₂ _ he)) (by rw [List.length_take, hrl]; omega))
end
/-- a, *b, c = a tuple or a list: the star at place i of n -/
def gStar (K : PySem.W.Frag) (n i : Nat) (t : TGs) : TG := fun v σ H Q => ∃ a xs, v = .ref a ∧ (SqT K H a xs ∨ SqL K H a xs) ∧ n ≤ xs.length + 1 ∧ ∀ q, H q = none →
  t (xs.take i ++ [.ref q] ++ (xs.drop i).drop (xs.length + 1 - n)) σ (upd H q (.lst ((xs.drop i).take (xs.length + 1 - n)))) Q
section
variable {X : Cx} {pos : Pos}
theorem vals_app : ∀ {xs : List V} {us : List Value} {ys : List V} {ws : List Value}, Vals xs us → Vals ys ws → Vals (xs ++ ys) (us ++ ws)
  | _, _, _, _, .nil, h => h
  | _, _, _, _, .cons a r, h => .cons a (vals_app r h)
theorem vals_takeD : ∀ {xs : List V} {us : List Value} (n : Nat), Vals xs us → Vals (xs.take n) (us.take n)
  | _, _, 0, _ => .nil
  | _, _, _ + 1, .nil => .nil
  | _, _, n + 1, .cons a r => .cons a (vals_takeD n r)
theorem vals_dropD : ∀ {xs : List V} {us : List Value} (n : Nat), Vals xs us → Vals (xs.drop n) (us.drop n)
  | _, _, 0, h => h
  | _, _, _ + 1, .nil => .nil
  | _, _, n + 1, .cons a r => vals_dropD n r
theorem pg_star {es : List Expr} {k : Nat} {t : TGs} {n i : Nat} (hc : X.calm = true) (h : PGs X es t)
    (hn : (assignEach es X.env).length = n := by rfl) (hst : (assignEach es X.env).findIdx? (·.1) = some i := by rfl) (hi : i < n := by decide) : PG X (.Tuple es k pos) (gStar X.K n i t) := by
  refine ⟨fun pins s σ H v u Q I r hw => ?_⟩
  obtain ⟨a, xs, e1, hq, hl, hw⟩ := hw
  subst e1
  cases r
  rw [PyProof.Rows.assign_Tuple]
  refine wpAny_bind (wpAny_standAt ?_)
  unfold unpack
  rw [hn, hst]
  rcases hq with hq | hq
  · obtain ⟨its, rv, ht, hz⟩ := I.tuple hq
    have ln : xs.length = its.toArray.size := by simp [rv.length]
    refine wpAny_bind (wpAny_holding (starT_items ht (I.ok.hd hc) hi (by rw [← ln]; exact hl) (by rw [← ln]; exact hz) fun h' tk hx => ?_))
    have I1 : Inv X pins σ H { s with heap := h', toks := tk } := I.kept (t' := tk) hx
    have rm : Vals ((xs.drop i).take (xs.length + 1 - n)) ((its.toArray.toList.drop i).take (its.toArray.size + 1 - n)) := by
      rw [ln]; exact vals_takeD _ (vals_dropD _ (by simpa using rv))
    have I2 := I1.lnew (t' := tk) rm (by rw [List.length_take, List.length_drop]; omega)
    refine h.run pins _ σ _ _ _ Q I2 ?_ (hw _ I1.fresh)
    rw [ln]
    exact vals_app (vals_app (vals_takeD _ (by simpa using rv)) (.cons rfl .nil)) (vals_dropD _ (vals_dropD _ (by simpa using rv)))
  · obtain ⟨its, rv, pl, hz⟩ := I.list hq
    have ht := pl.isList
    have ln : xs.length = its.toArray.size := by simp [rv.length]
    refine wpAny_bind (wpAny_holding (starL_items ht (I.ok.hd hc) hi (by rw [← ln]; exact hl) (by rw [← ln]; exact hz) fun h' tk hx => ?_))
    have I1 : Inv X pins σ H { s with heap := h', toks := tk } := I.kept (t' := tk) hx
    have rm : Vals ((xs.drop i).take (xs.length + 1 - n)) ((its.toArray.toList.drop i).take (its.toArray.size + 1 - n)) := by
      rw [ln]; exact vals_takeD _ (vals_dropD _ (by simpa using rv))
    have I2 := I1.lnew (t' := tk) rm (by rw [List.length_take, List.length_drop]; omega)
    refine h.run pins _ σ _ _ _ Q I2 ?_ (hw _ I1.fresh)
    rw [ln]
    exact vals_app (vals_app (vals_takeD _ (by simpa using rv)) (.cons rfl .nil)) (vals_dropD _ (vals_dropD _ (by simpa using rv)))
theorem pgs_star {e : Expr} {es : List Expr} {t : TG} {u : TGs} {p : Pos} (h1 : PG X e t) (h2 : PGs X es u)
    (hs : (assignEach (.Starred e p :: es) X.env).map (·.2) = assign e X.env :: (assignEach es X.env).map (·.2) := by rfl) : PGs X (.Starred e p :: es) (gCons t u) := by
  refine ⟨fun pins s σ H vs us Q I r h => ?_⟩
  obtain ⟨v, vr, e1, h⟩ := h
  subst e1
  cases r with
  | cons r rr =>
    rw [hs]
    refine assignInOrder_cons (thn (h1.run pins s σ H _ _ _ I r h) fun _ s1 ⟨σ1, H1, I1, q1⟩ => ?_)
    exact h2.run pins s1 σ1 H1 _ _ Q I1 rr q1
theorem pg_starK {K : PySem.W.Frag} {es : List Expr} {k : Nat} {t : TGs} {n i : Nat} (e : X.K = K) (hc : X.calm = true) (h : PGs X es t)
    (hn : (assignEach es X.env).length = n := by rfl) (hst : (assignEach es X.env).findIdx? (·.1) = some i := by rfl) (hi : i < n := by decide) : PG X (.Tuple es k pos) (gStar K n i t) := by
  subst e; exact pg_star hc h hn hst hi
end
end L2
namespace Dx
open PySem PySem.Spec PyProof.Rows L2 Hx
namespace G
def star (n i : Nat) (gs : GMs) : GM
  | .tup ds, ρ => if n ≤ ds.length + 1 then gs (ds.take i ++ [.lst ((ds.drop i).take (ds.length + 1 - n))] ++ (ds.drop i).drop (ds.length + 1 - n)) ρ else none
  | .lst ds, ρ => if n ≤ ds.length + 1 then gs (ds.take i ++ [.lst ((ds.drop i).take (ds.length + 1 - n))] ++ (ds.drop i).drop (ds.length + 1 - n)) ρ else none
  | _, _ => none
end G
section
variable {K : PySem.W.Frag} {mg : Str → Option Value} {c : Ctx K mg} {wx : WX} {X : Cx} {e : Expr}
theorem pd_gstar {ns : List Nat} {n i : Nat} {gs : GMs} (h : PG X e (gStar c.K n i (liftGs c ns gs))) : PG X e (liftG c ns (G.star n i gs)) := pgI h fun v σ H Q ⟨F, ρ, d, R, r, p⟩ => by
  have fin : ∀ (vs : List V) (ds : List D) (q : Addr), RdL c.K c.mg F vs ds → H q = none → (match gs (ds.take i ++ [.lst ((ds.drop i).take (ds.length + 1 - n))] ++ (ds.drop i).drop (ds.length + 1 - n)) ρ with
      | some ρ' => ∀ σ' F' H', Same F F' → Rs c F' σ' H' ρ' → (∀ i, i ∉ ns → σ'[i]? = σ[i]?) → σ'.length = σ.length → Q σ' H'
      | none => False) → liftGs c ns gs (vs.take i ++ [.ref q] ++ (vs.drop i).drop (vs.length + 1 - n)) σ (upd H q (.lst ((vs.drop i).take (vs.length + 1 - n)))) Q := fun vs ds q rl nq p => by
    rw [← rl.len] at p
    have a := Adv.put (o := .lst ((vs.drop i).take (vs.length + 1 - n))) R.up nq
    have rl' := rl.up a.ff
    refine ⟨_, ρ, _, R.adv a, ((rl'.takeD i).app (.one (.lst upd_same ((rl'.dropD i).takeD _)))).app ((rl'.dropD i).dropD _), ?_⟩
    split at p
    · rename_i ρ' e
      first
        | exact fun σ' F' H' s' => p σ' F' H' (a.ff.trans s')
        | (rw [e]; exact fun σ' F' H' s' => p σ' F' H' (a.ff.trans s'))
    · exact p.elim
  cases d with
  | tup ds =>
    dsimp only [G.star] at p
    by_cases l : n ≤ ds.length + 1
    · rw [if_pos l] at p
      obtain ⟨a, vs, rfl, hs, rl⟩ := r.inv_tup
      exact ⟨a, vs, rfl, .inl (st_of (R.up _ _ hs)), by rw [rl.len]; exact l, fun q nq => fin vs ds q rl nq p⟩
    · rw [if_neg l] at p; exact p.elim
  | lst ds =>
    dsimp only [G.star] at p
    by_cases l : n ≤ ds.length + 1
    · rw [if_pos l] at p
      obtain ⟨a, vs, rfl, hs, rl⟩ := r.inv_lst
      exact ⟨a, vs, rfl, .inr (sq_of (R.up _ _ hs)), by rw [rl.len]; exact l, fun q nq => fin vs ds q rl nq p⟩
    · rw [if_neg l] at p; exact p.elim
  | _ => exact p.elim
end
/-! ## a call whose first argument, a list that nobody holds, is written to and let go -/
namespace E
def caF (m : List D → List D → Fr) : W → Env → Z W
  | .f ds, ρ => frW (m ds []) ρ
  | _, _ => .bad
@[simp] def callF (m : List D → List D → Fr) (a : EM) (ρ : Env) : Z W := (a ρ).bind fun w ρ1 => caF m w ρ1
end E
section
variable {K : PySem.W.Frag} {mg : Str → Option Value} {c : Ctx K mg} {wx : WX} {ma : EM}
theorem Rs.advF {F H F' H' : Hp} {σ : L2.St} {ρ : Env} {p : Addr} (R : Rs c F σ H ρ) (np : F p = none) (f0 : Fresh c p) (nio : some p ≠ c.io) (no : ∀ i, own ρ i → σ[i]? ≠ some (some (.ref p))) (a : AdvI p F H F' H') : Rs c F' σ H' ρ := by
  have keepN : ∀ {q : Addr} {ob : HO}, F q = none → H q = some ob → F' q = none := fun {q ob} nq hq => not_some fun z => by
    have := a.nw q z nq; rw [hq] at this; cases this
  refine ⟨R.len, a.fh, R.up0.trans a.ff, fun q ob hq ne => ?_, fun q hq nq => ?_, fun q e nq => ?_, R.io0, fun q ob hq => ⟨a.hh q ob (fun z => by rw [z, f0.2] at hq; cases hq) (R.pr q ob hq).1, keepN (R.pr q ob hq).2 (R.pr q ob hq).1⟩, fun j s hs => ?_, R.dj⟩
  · exact a.hh q ob (fun z => by rw [z, f0.1] at hq; cases hq) (R.fr q ob hq ne)
  · by_cases z : F q = none
    · exact (R.none0 (a.nw q hq z)).1
    · exact R.nw q z nq
  · cases hq : H q with
    | none => exact R.ioH q e hq
    | some ob => rw [a.hh q ob (fun z => nio (by rw [← z]; exact e.symm)) hq] at nq; cases nq
  · have r := R.sl j s hs
    cases s with
    | un => trivial
    | tr d => obtain ⟨v, e, r⟩ := r; exact ⟨v, e, r.up a.ff⟩
    | ol o2 ds =>
      obtain ⟨q, vs, e, n, h, r, w⟩ := r
      have ne : q ≠ p := fun z => no j (.inl ⟨_, _, hs⟩) (by rw [e, z])
      exact ⟨q, vs, e, keepN n h, a.hh _ _ ne h, r.up a.ff, w⟩
    | od b es =>
      obtain ⟨q, e, n, h0, dc⟩ := r
      have ne : q ≠ p := fun z => no j (.inr ⟨_, _, hs⟩) (by rw [e, z])
      obtain ⟨ob, ho⟩ := dc.ex
      refine ⟨q, e, keepN n ho, h0, ?_⟩
      rcases dc with ⟨e, kvs, h, r⟩ | ⟨e, kvs, h, r⟩
      · exact .inl ⟨e, kvs, a.hh _ _ ne h, r.up a.ff⟩
      · exact .inr ⟨e, kvs, a.hh _ _ ne h, r.up a.ff⟩
theorem lift_callF {m : List D → List D → Fr} (σ : L2.St) (H : Hp) (Q : VK) (h : liftE c wx (E.callF m ma) σ H Q) : tCallE (spI c.K c.mg 0 m) wx (tCons (liftE c wx ma) tNil) σ H Q := by
  obtain ⟨F, ρ, R, p⟩ := h
  refine ⟨F, ρ, R, p.bnd.im fun w ρ1 p x F1 H1 s1 R1 r1 => ?_⟩
  cases w with
  | f zs =>
    obtain ⟨q, vs, rfl, nq, f0, hq, rq, nio, no⟩ := r1
    refine ⟨rfl, F1, q, [], vs, zs, [], rfl, R1.up, nq, hq, rq, .nil, ?_⟩
    dsimp only [E.caF, E.frW] at p
    cases em : m zs [] with
    | bad => rw [em] at p; exact p.elim
    | ex cn fs io =>
      rw [em] at p
      exact fun C dd fsV F' H' ws hm a hd r hp rp => p C dd fsV F' H' σ hm (s1.trans a.ff) (R1.advF nq f0 nio no a) hd r
    | ok wv io =>
      rw [em] at p
      intro x F' H' ws a r hp rp
      have R3 := R1.advF nq f0 nio no a
      cases wv with
      | o i => exact p.elim
      | t d => exact p x F' H' (s1.trans a.ff) R3 r
      | f zs => exact p x F' H' (s1.trans a.ff) R3 (r.toW R1 fun i h => h)
      | g b es => exact p x F' H' (s1.trans a.ff) R3 (r.toW R1 fun i h => h)
  | _ => exact p.elim
theorem pd_callF {X : Cx} {e : Expr} {m : List D → List D → Fr} (h : PE X e (tCallE (spI c.K c.mg 0 m) wx (tCons (liftE c wx ma) tNil))) : PE X e (liftE c wx (E.callF m ma)) := pd_of h lift_callF
end
/-! ## a call without arguments -/
section
variable {X : Cx} {K : PySem.W.Frag} {mg : Str → Option Value} {c : Ctx K mg} {wx : WX}
theorem pc_try0 {k : Nat} {f : Addr} {fd : FuncData} {ps : List Str} {sp : Sp} {x : Str} {p pos : Pos} {W : WX} (F : FnG X.prog X.w X.K X.mg X.base (L2.CX X.prog X.w) k f fd ps sp) (hr : RoomG k X.A) (hg : Gl X x) (hm : X.mg x = some (.ref f)) (kp : PySem.W.keepIn X.K (.ref f) = true) (hb : Binds X.K fd ps []) (tk : Takes X W)
    (n2 : (x == ("__debug__" : Str)) = false := by decide) : PE X (.Call (.Name x p) [] [] pos) (tCallE sp W tNil) := by
  refine ⟨fun pins s σ H Q I h => wpAny_Call_Name_kw (ld_glob I hg hm ?_ n2)⟩
  refine PySem.W.callWith_K0 I.kIn kp (into (given := ⟨[], []⟩) (us := []) F hr (fun e s' c => passAt tk σ pins H s e s' I c) I (fun n => ?_) .nil h)
  exact hb s [] I.kIn n
theorem pd_call0 {e : Expr} {m : List D → Fr} (h : PE X e (tCallE (spP c.K c.mg 0 m) wx tNil)) : PE X e (liftE c wx (E.call 0 m A.nil)) := pd_of h fun σ H Q q => by
  obtain ⟨F, ρ, R, p⟩ := lift_call σ H Q q
  exact p [] F H (Same.refl F) R .nil
end
/-! ## calls with keywords: g puts the values into the parameters' order -/
def tCallKE (sp : Sp) (gV : List V → List V → List V) (W : WX) (ta tk : TA) : TE := fun σ H Q => ta σ H fun vs G => tk σ G fun zs J => sp (gV vs zs) J Q fun cls d J' => W cls d σ J'
section
variable {X : Cx} {k : Nat} {f : Addr} {fd : FuncData} {ps ks : List Str} {sp : Sp} {x : Str} {p pos : Pos} {e : Expr} {es : List Expr} {kws : List Keyword} {ta tk : TA} {g : List Value → List Value → List Value} {gV : List V → List V → List V} {W : WX}
theorem pc_kwT (F : FnG X.prog X.w X.K X.mg X.base (L2.CX X.prog X.w) k f fd ps sp) (hr : RoomG k X.A) (hg : Gl X x) (hm : X.mg x = some (.ref f)) (kp : PySem.W.keepIn X.K (.ref f) = true) (hb : KBinds X.K fd ps ks g gV) (tkW : Takes X W) (hk : PK X kws tk)
    (all : (backToKw pos (keywordEach kws X.env)).all (·.1.isSome) = true := by rfl) (nms : (backToKw pos (keywordEach kws X.env)).filterMap (·.1) = ks := by rfl) (n2 : (x == ("__debug__" : Str)) = false := by decide)
    (pl : ((backTo pos (starEach [] X.env)).any (·.1) || (backToKw pos (keywordEach kws X.env)).any (·.1.isNone)) = false := by rfl) : PE X (.Call (.Name x p) [] kws pos) (tCallKE sp gV W tNil tk) := by
  refine ⟨fun pins s σ H Q I h => wpAny_Call_Name_kw (ld_glob I hg hm ?_ n2)⟩
  refine PySem.W.callWith_KW0 (h₀ := X.base) I.ok.mod.kin kp all ?_ pl
  refine thn (hk.run pos pins s σ H _ I h) fun ws s2 hh => ?_
  obtain ⟨zs, G, J, rz, q⟩ := hh
  refine ⟨J.kIn, ?_⟩
  rw [nms]
  exact into (given := ⟨[], ks.zip ws⟩) (us := g [] ws) F hr (fun e s' c => passAt tkW σ pins G s2 e s' J c) J (fun n => hb.to s2 [] ws J.kIn n) (hb.rel .nil rz) q
theorem pc_mixT (F : FnG X.prog X.w X.K X.mg X.base (L2.CX X.prog X.w) k f fd ps sp) (hr : RoomG k X.A) (hg : Gl X x) (hm : X.mg x = some (.ref f)) (kp : PySem.W.keepIn X.K (.ref f) = true) (hb : KBinds X.K fd ps ks g gV) (tkW : Takes X W) (ha : PA X (e :: es) ta) (hk : PK X kws tk)
    (all : (backToKw pos (keywordEach kws X.env)).all (·.1.isSome) = true := by rfl) (nms : (backToKw pos (keywordEach kws X.env)).filterMap (·.1) = ks := by rfl) (n2 : (x == ("__debug__" : Str)) = false := by decide)
    (he : starEach (e :: es) X.env = (false, eval e X.env) :: starEach es X.env := by rfl)
    (pl : ((backTo pos (starEach (e :: es) X.env)).any (·.1) || (backToKw pos (keywordEach kws X.env)).any (·.1.isNone)) = false := by rfl) : PE X (.Call (.Name x p) (e :: es) kws pos) (tCallKE sp gV W ta tk) := by
  refine ⟨fun pins s σ H Q I h => wpAny_Call_Name_kw (ld_glob I hg hm ?_ n2)⟩
  refine PySem.W.callWith_KW (h₀ := X.base) I.ok.mod.kin kp all (thn (ha.run pos pins s σ H _ I h) fun us s1 h1 => ?_) pl he
  obtain ⟨vs, G1, J1, r1, q1⟩ := h1
  refine thn (hk.run pos pins s1 σ G1 _ J1 q1) fun ws s2 hh => ?_
  obtain ⟨zs, G, J, rz, q⟩ := hh
  refine ⟨J.kIn, ?_⟩
  rw [nms]
  exact into (given := ⟨us, ks.zip ws⟩) (us := g us ws) F hr (fun e s' c => passAt tkW σ pins G s2 e s' J c) J (fun n => hb.to s2 us ws J.kIn n) (hb.rel r1 rz) q
end
theorem pkI {X : Cx} {kws : List Keyword} {t t' : TA} (h : PK X kws t) (i : ∀ σ H Q, t' σ H Q → t σ H Q) : PK X kws t' := ⟨fun pos pins s σ H Q I q => h.run pos pins s σ H Q I (i σ H Q q)⟩
namespace E
@[simp] def callK (n : Nat) (m : List D → Fr) (g : List D → List D → List D) (a b : AM) (ρ : Env) : Z W := (a ρ).bind fun ws1 ρ1 => (b ρ1).bind fun ws2 ρ2 => (fzs (ws1 ++ ws2) ρ2).bind fun ds ρ3 =>
  if (g (ds.take ws1.length) (ds.drop ws1.length)).length = n then frW (m (g (ds.take ws1.length) (ds.drop ws1.length))) ρ3 else .bad
end E
section
variable {X : Cx} {K : PySem.W.Frag} {mg : Str → Option Value} {c : Ctx K mg} {wx : WX} {ma mb : AM}
theorem pd_knil {kws : List Keyword} (h : PK X kws tNil) : PK X kws (liftA c wx A.nil) := pkI h fun σ H Q ⟨F, ρ, R, p⟩ => p [] F H (Same.refl F) R .nil
theorem pd_kcons {me : EM} {kws : List Keyword} (h : PK X kws (tCons (liftE c wx me) (liftA c wx mb))) : PK X kws (liftA c wx (A.cons me mb)) := pkI h lift_cons
theorem RdWs.app {F H : Hp} {σ : L2.St} {ρ : Env} : ∀ {xs ys : List V} {ws us : List W}, RdWs c F σ H ρ xs ws → RdWs c F σ H ρ ys us → RdWs c F σ H ρ (xs ++ ys) (ws ++ us)
  | _, _, _, _, .nil, h => h
  | _, _, _, _, .cons e a r, h => .cons e a (RdWs.app r h)
theorem lift_callK {n : Nat} {m : List D → Fr} {g : List D → List D → List D} {gV : List V → List V → List V} (hg : ∀ {F : Hp} {vs zs : List V} {ds es : List D}, RdL K mg F vs ds → RdL K mg F zs es → RdL K mg F (gV vs zs) (g ds es))
    (σ : L2.St) (H : Hp) (Q : VK) (h : liftE c wx (E.callK n m g ma mb) σ H Q) : tCallKE (spP c.K c.mg n m) gV wx (liftA c wx ma) (liftA c wx mb) σ H Q := by
  obtain ⟨F, ρ, R, p⟩ := h
  refine ⟨F, ρ, R, p.bnd.im fun ws1 ρ1 p xs F1 H1 s1 R1 r1 => ⟨F1, ρ1, R1, Pst.up s1 p.bnd fun ws2 ρ2 p zs F2 H2 s2 R2 r2 => ?_⟩⟩
  cases e : fzs (ws1 ++ ws2) ρ2 with
  | bad => rw [e] at p; exact p.elim
  | ex _ _ _ => exact absurd e fzs_ne
  | ok ds ρ3 =>
    rw [e] at p
    obtain ⟨F3, s3, R3, r3⟩ := fzs_ok (ρ0 := ρ2) R2 (RdWs.app (RdWs.up s2 r1) r2) e
    have lx := r1.len
    have rt := r3.takeD ws1.length
    have rd := r3.dropD ws1.length
    rw [← lx, List.take_left, lx] at rt
    rw [← lx, List.drop_left, lx] at rd
    have rg := hg rt rd
    have p : Pst c wx F σ (if (g (ds.take ws1.length) (ds.drop ws1.length)).length = n then E.frW (m (g (ds.take ws1.length) (ds.drop ws1.length))) ρ3 else .bad) _ := p
    generalize g (ds.take ws1.length) (ds.drop ws1.length) = es at rg p
    have s03 := (s1.trans s2).trans s3
    by_cases l : es.length = n
    · rw [if_pos l] at p
      refine ⟨by rw [rg.len]; exact l, F3, es, R3.up, rg, ?_⟩
      dsimp only [E.frW] at p
      cases em : m es with
      | bad => rw [em] at p; exact p.elim
      | ex cn fs io =>
        rw [em] at p
        exact fun C dd fsV F' H' hm a hd r => p C dd fsV F' H' σ hm (s03.trans a.ff) (R3.adv a) hd r
      | ok w io =>
        rw [em] at p
        intro x F' H' a r
        cases w with
        | o i => exact p.elim
        | t d => exact p x F' H' (s03.trans a.ff) (R3.adv a) r
        | f zs => exact p x F' H' (s03.trans a.ff) (R3.adv a) (r.toW R3 fun i h => h)
        | g b es => exact p x F' H' (s03.trans a.ff) (R3.adv a) (r.toW R3 fun i h => h)
    · rw [if_neg l] at p; exact p.elim
theorem pd_callK {e : Expr} {n : Nat} {m : List D → Fr} {g : List D → List D → List D} {gV : List V → List V → List V} (hg : ∀ {F : Hp} {vs zs : List V} {ds es : List D}, RdL K mg F vs ds → RdL K mg F zs es → RdL K mg F (gV vs zs) (g ds es))
    (h : PE X e (tCallKE (spP c.K c.mg n m) gV wx (liftA c wx ma) (liftA c wx mb))) : PE X e (liftE c wx (E.callK n m g ma mb)) := pd_of h (lift_callK hg)
theorem pd_callK0 {e : Expr} {n : Nat} {m : List D → Fr} {g : List D → List D → List D} {gV : List V → List V → List V} (hg : ∀ {F : Hp} {vs zs : List V} {ds es : List D}, RdL K mg F vs ds → RdL K mg F zs es → RdL K mg F (gV vs zs) (g ds es))
    (h : PE X e (tCallKE (spP c.K c.mg n m) gV wx tNil (liftA c wx mb))) : PE X e (liftE c wx (E.callK n m g A.nil mb)) := pd_of h fun σ H Q q => by
  obtain ⟨F, ρ, R, p⟩ := lift_callK (ma := A.nil) hg σ H Q q
  exact p [] F H (Same.refl F) R .nil
end
end Dx

/-! ## the equations of the data layer, for simp (printed by a program of this repo from the definitions) -/
namespace Dx
@[simp] theorem q_Z_bind_1 : ∀ {α β : Type} (x : α → Dx.Env → Dx.Z β) (a : α) (ρ : Dx.Env), Dx.Z.bind (Dx.Z.ok a ρ) x = x a ρ := @Dx.Z.bind.eq_1
@[simp] theorem q_Z_bind_2 : ∀ {α β : Type} (x : α → Dx.Env → Dx.Z β) (c : PySem.Str) (fs : List (PySem.Str × Dx.D)) (ρ : Dx.Env), Dx.Z.bind (Dx.Z.ex c fs ρ) x = Dx.Z.ex c fs ρ := @Dx.Z.bind.eq_2
@[simp] theorem q_Z_bind_3 : ∀ {α β : Type} (x : α → Dx.Env → Dx.Z β), Dx.Z.bind Dx.Z.bad x = Dx.Z.bad := @Dx.Z.bind.eq_3
@[simp] theorem q_W_st_1 : ∀ (ds : List Dx.D), Dx.W.st (Dx.W.f ds) = Dx.W.t (Dx.D.lst ds) := @Dx.W.st.eq_1
@[simp] theorem q_W_st_2 : ∀ (b : Bool) (kvs : List (Dx.D × Dx.D)), Dx.W.st (Dx.W.g b kvs) = Dx.W.t (Dx.D.dct kvs) := @Dx.W.st.eq_2
@[simp] theorem q_W_st_3 : ∀ (d : Dx.D), Dx.W.st (Dx.W.t d) = Dx.W.t d := @Dx.W.st.eq_3
@[simp] theorem q_W_st_4 : ∀ (i : Nat), Dx.W.st (Dx.W.o i) = Dx.W.o i := @Dx.W.st.eq_4
@[simp] theorem q_pkS_1 : ∀ (o : Bool) (ds : List Dx.D), Dx.pkS (Option.some (Dx.Slot.ol o ds)) = Option.some (Dx.D.lst ds) := @Dx.pkS.eq_1
@[simp] theorem q_pkS_2 : ∀ (b : Bool) (kvs : List (Dx.D × Dx.D)), Dx.pkS (Option.some (Dx.Slot.od b kvs)) = Option.some (Dx.D.dct kvs) := @Dx.pkS.eq_2
@[simp] theorem q_pkS_3 : ∀ (d : Dx.D), Dx.pkS (Option.some (Dx.Slot.tr d)) = Option.some d := @Dx.pkS.eq_3
@[simp] theorem q_pkS_4 : Dx.pkS (Option.some Dx.Slot.un) = Option.none := @Dx.pkS.eq_4
@[simp] theorem q_pkS_5 : Dx.pkS Option.none = Option.none := @Dx.pkS.eq_5
@[simp] theorem q_pk_1 : ∀ (x : Dx.Env) (d : Dx.D), Dx.pk (Dx.W.t d) x = Option.some d := @Dx.pk.eq_1
@[simp] theorem q_pk_2 : ∀ (x : Dx.Env) (ds : List Dx.D), Dx.pk (Dx.W.f ds) x = Option.some (Dx.D.lst ds) := @Dx.pk.eq_2
@[simp] theorem q_pk_3 : ∀ (x : Dx.Env) (b : Bool) (kvs : List (Dx.D × Dx.D)), Dx.pk (Dx.W.g b kvs) x = Option.some (Dx.D.dct kvs) := @Dx.pk.eq_3
@[simp] theorem q_pk_4 : ∀ (x : Dx.Env) (i : Nat), Dx.pk (Dx.W.o i) x = Dx.pkS x[i]? := @Dx.pk.eq_4
@[simp] theorem q_fzS_1 : ∀ (x : Nat) (x_1 : Dx.Env) (ds : List Dx.D), Dx.fzS (Option.some (Dx.Slot.ol Bool.false ds)) x x_1 = Dx.Z.ok (Dx.D.lst ds) (List.set x_1 x (Dx.Slot.tr (Dx.D.lst ds))) := @Dx.fzS.eq_1
@[simp] theorem q_fzS_2 : ∀ (x : Nat) (x_1 : Dx.Env) (ds : List Dx.D), Dx.fzS (Option.some (Dx.Slot.ol Bool.true ds)) x x_1 = Dx.Z.bad := @Dx.fzS.eq_2
@[simp] theorem q_fzS_3 : ∀ (x : Nat) (x_1 : Dx.Env) (b : Bool) (kvs : List (Dx.D × Dx.D)), Dx.fzS (Option.some (Dx.Slot.od b kvs)) x x_1 = Dx.Z.ok (Dx.D.dct kvs) (List.set x_1 x (Dx.Slot.tr (Dx.D.dct kvs))) := @Dx.fzS.eq_3
@[simp] theorem q_fzS_4 : ∀ (x : Nat) (x_1 : Dx.Env) (d : Dx.D), Dx.fzS (Option.some (Dx.Slot.tr d)) x x_1 = Dx.Z.ok d x_1 := @Dx.fzS.eq_4
@[simp] theorem q_fzS_5 : ∀ (x : Nat) (x_1 : Dx.Env), Dx.fzS (Option.some Dx.Slot.un) x x_1 = Dx.Z.bad := @Dx.fzS.eq_5
@[simp] theorem q_fzS_6 : ∀ (x : Nat) (x_1 : Dx.Env), Dx.fzS Option.none x x_1 = Dx.Z.bad := @Dx.fzS.eq_6
@[simp] theorem q_fz_1 : ∀ (x : Dx.Env) (d : Dx.D), Dx.fz (Dx.W.t d) x = Dx.Z.ok d x := @Dx.fz.eq_1
@[simp] theorem q_fz_2 : ∀ (x : Dx.Env) (ds : List Dx.D), Dx.fz (Dx.W.f ds) x = Dx.Z.ok (Dx.D.lst ds) x := @Dx.fz.eq_2
@[simp] theorem q_fz_3 : ∀ (x : Dx.Env) (b : Bool) (kvs : List (Dx.D × Dx.D)), Dx.fz (Dx.W.g b kvs) x = Dx.Z.ok (Dx.D.dct kvs) x := @Dx.fz.eq_3
@[simp] theorem q_fz_4 : ∀ (x : Dx.Env) (i : Nat), Dx.fz (Dx.W.o i) x = Dx.fzS x[i]? i x := @Dx.fz.eq_4
@[simp] theorem q_toW_1 : ∀ (x : Dx.Env) (d : Dx.D), Dx.toW (Option.some (Dx.W.t d)) x = Dx.Z.ok (Dx.W.t d) x := @Dx.toW.eq_1
@[simp] theorem q_toW_2 : ∀ (x : Dx.Env) (ds : List Dx.D), Dx.toW (Option.some (Dx.W.f ds)) x = Dx.Z.ok (Dx.W.f ds) x := @Dx.toW.eq_2
@[simp] theorem q_toW_3 : ∀ (x : Dx.Env) (b : Bool) (es : List (Dx.D × Dx.D)), Dx.toW (Option.some (Dx.W.g b es)) x = Dx.Z.ok (Dx.W.g b es) x := @Dx.toW.eq_3
@[simp] theorem q_toW_4 : ∀ (x : Dx.Env) (i : Nat), Dx.toW (Option.some (Dx.W.o i)) x = Dx.Z.bad := @Dx.toW.eq_4
@[simp] theorem q_toW_5 : ∀ (x : Dx.Env), Dx.toW Option.none x = Dx.Z.bad := @Dx.toW.eq_5
@[simp] theorem q_E_varR_1 : ∀ (x : Nat) (x_1 : Dx.Env) (d : Dx.D), Dx.E.varR (Option.some (Dx.Slot.tr d)) x x_1 = Dx.Z.ok (Dx.W.t d) x_1 := @Dx.E.varR.eq_1
@[simp] theorem q_E_varR_2 : ∀ (x : Nat) (x_1 : Dx.Env) (o : Bool) (ds : List Dx.D), Dx.E.varR (Option.some (Dx.Slot.ol o ds)) x x_1 = Dx.Z.ok (Dx.W.o x) x_1 := @Dx.E.varR.eq_2
@[simp] theorem q_E_varR_3 : ∀ (x : Nat) (x_1 : Dx.Env) (b : Bool) (kvs : List (Dx.D × Dx.D)), Dx.E.varR (Option.some (Dx.Slot.od b kvs)) x x_1 = Dx.Z.ok (Dx.W.o x) x_1 := @Dx.E.varR.eq_3
@[simp] theorem q_E_varR_4 : ∀ (x : Nat) (x_1 : Dx.Env), Dx.E.varR (Option.some Dx.Slot.un) x x_1 = Dx.Z.bad := @Dx.E.varR.eq_4
@[simp] theorem q_E_varR_5 : ∀ (x : Nat) (x_1 : Dx.Env), Dx.E.varR Option.none x x_1 = Dx.Z.bad := @Dx.E.varR.eq_5
@[simp] theorem q_E_ap2_1 : ∀ (f : Dx.D → Dx.D → Option Dx.W) (x : Dx.Env) (d1 d2 : Dx.D), Dx.E.ap2 f (Option.some d1) (Option.some d2) x = Dx.toW (f d1 d2) x := @Dx.E.ap2.eq_1
@[simp] theorem q_E_ap2_2 : ∀ (f : Dx.D → Dx.D → Option Dx.W) (x : Option Dx.D) (x_1 : Dx.Env), Dx.E.ap2 f Option.none x x_1 = Dx.Z.bad := @Dx.E.ap2.eq_2
@[simp] theorem q_E_ap2_3 : ∀ (f : Dx.D → Dx.D → Option Dx.W) (x : Dx.Env) (val : Dx.D), Dx.E.ap2 f (Option.some val) Option.none x = Dx.Z.bad := @Dx.E.ap2.eq_3
@[simp] theorem q_E_ap1_1 : ∀ (f : Dx.D → Option Dx.W) (x : Dx.Env) (d1 : Dx.D), Dx.E.ap1 f (Option.some d1) x = Dx.toW (f d1) x := @Dx.E.ap1.eq_1
@[simp] theorem q_E_ap1_2 : ∀ (f : Dx.D → Option Dx.W) (x : Dx.Env), Dx.E.ap1 f Option.none x = Dx.Z.bad := @Dx.E.ap1.eq_2
@[simp] theorem q_E_andR_1 : ∀ (b : Dx.EM) (x : Dx.Env) (d : Dx.D), Dx.E.andR b (Dx.W.t d) x = Dx.E.anD b d (Dx.E.truD d) x := @Dx.E.andR.eq_1
@[simp] theorem q_E_andR_2 : ∀ (b : Dx.EM) (x : Dx.W) (x_1 : Dx.Env), (∀ (d : Dx.D), x = Dx.W.t d → False) → Dx.E.andR b x x_1 = Dx.Z.bad := @Dx.E.andR.eq_2
@[simp] theorem q_E_orR_1 : ∀ (b : Dx.EM) (x : Dx.Env) (d : Dx.D), Dx.E.orR b (Dx.W.t d) x = Dx.E.orD b d (Dx.E.truD d) x := @Dx.E.orR.eq_1
@[simp] theorem q_E_orR_2 : ∀ (b : Dx.EM) (x : Dx.W) (x_1 : Dx.Env), (∀ (d : Dx.D), x = Dx.W.t d → False) → Dx.E.orR b x x_1 = Dx.Z.bad := @Dx.E.orR.eq_2
@[simp] theorem q_E_notR_1 : ∀ (x : Dx.Env) (x_2 : Bool), Dx.E.notR (Dx.W.t (Dx.D.bl x_2)) x = Dx.Z.ok (Dx.W.t (Dx.D.bl !x_2)) x := @Dx.E.notR.eq_1
@[simp] theorem q_E_notR_2 : ∀ (x : Dx.W) (x_1 : Dx.Env), (∀ (x_2 : Bool), x = Dx.W.t (Dx.D.bl x_2) → False) → Dx.E.notR x x_1 = Dx.Z.bad := @Dx.E.notR.eq_2
@[simp] theorem q_E_chR_1 : ∀ (k : Dx.Env → Dx.Z Dx.W) (x : Dx.Env), Dx.E.chR k (Option.some (Dx.W.t (Dx.D.bl Bool.true))) x = k x := @Dx.E.chR.eq_1
@[simp] theorem q_E_chR_2 : ∀ (k : Dx.Env → Dx.Z Dx.W) (x : Dx.Env), Dx.E.chR k (Option.some (Dx.W.t (Dx.D.bl Bool.false))) x = Dx.Z.ok (Dx.W.t (Dx.D.bl Bool.false)) x := @Dx.E.chR.eq_2
@[simp] theorem q_E_chR_3 : ∀ (k : Dx.Env → Dx.Z Dx.W) (x : Option Dx.W) (x_1 : Dx.Env), (x = Option.some (Dx.W.t (Dx.D.bl Bool.true)) → False) → (x = Option.some (Dx.W.t (Dx.D.bl Bool.false)) → False) → Dx.E.chR k x x_1 = Dx.Z.bad := @Dx.E.chR.eq_3
@[simp] theorem q_E_chA_1 : ∀ (f : Dx.D → Dx.D → Option Dx.W) (k : Dx.Env → Dx.Z Dx.W) (x : Dx.Env) (d1 d2 : Dx.D), Dx.E.chA f k (Option.some d1) (Option.some d2) x = Dx.E.chR k (f d1 d2) x := @Dx.E.chA.eq_1
@[simp] theorem q_E_chA_2 : ∀ (f : Dx.D → Dx.D → Option Dx.W) (k : Dx.Env → Dx.Z Dx.W) (x : Option Dx.D) (x_1 : Dx.Env), Dx.E.chA f k Option.none x x_1 = Dx.Z.bad := @Dx.E.chA.eq_2
@[simp] theorem q_E_chA_3 : ∀ (f : Dx.D → Dx.D → Option Dx.W) (k : Dx.Env → Dx.Z Dx.W) (x : Dx.Env) (val : Dx.D), Dx.E.chA f k (Option.some val) Option.none x = Dx.Z.bad := @Dx.E.chA.eq_3
@[simp] theorem q_consO_1 : ∀ (d : Dx.D) (ds : List Dx.D), Dx.consO (Option.some d) (Option.some ds) = Option.some (d :: ds) := @Dx.consO.eq_1
@[simp] theorem q_consO_2 : ∀ (x : Option (List Dx.D)), Dx.consO Option.none x = Option.none := @Dx.consO.eq_2
@[simp] theorem q_consO_3 : ∀ (val : Dx.D), Dx.consO (Option.some val) Option.none = Option.none := @Dx.consO.eq_3
@[simp] theorem q_E_apL_1 : ∀ (f : List Dx.D → Option Dx.W) (x : Dx.Env) (ds : List Dx.D), Dx.E.apL f (Option.some ds) x = Dx.toW (f ds) x := @Dx.E.apL.eq_1
@[simp] theorem q_E_apL_2 : ∀ (f : List Dx.D → Option Dx.W) (x : Dx.Env), Dx.E.apL f Option.none x = Dx.Z.bad := @Dx.E.apL.eq_2
@[simp] theorem q_E_frW_1 : ∀ (x : Dx.Env) (d : Dx.D) (io : List Dx.D), Dx.E.frW (Dx.Fr.ok (Dx.W.t d) io) x = Dx.Z.ok (Dx.W.t d) x := @Dx.E.frW.eq_1
@[simp] theorem q_E_frW_2 : ∀ (x : Dx.Env) (ds io : List Dx.D), Dx.E.frW (Dx.Fr.ok (Dx.W.f ds) io) x = Dx.Z.ok (Dx.W.f ds) x := @Dx.E.frW.eq_2
@[simp] theorem q_E_frW_3 : ∀ (x : Dx.Env) (b : Bool) (es : List (Dx.D × Dx.D)) (io : List Dx.D), Dx.E.frW (Dx.Fr.ok (Dx.W.g b es) io) x = Dx.Z.ok (Dx.W.g b es) x := @Dx.E.frW.eq_3
@[simp] theorem q_E_frW_4 : ∀ (x : Dx.Env) (i : Nat) (io : List Dx.D), Dx.E.frW (Dx.Fr.ok (Dx.W.o i) io) x = Dx.Z.bad := @Dx.E.frW.eq_4
@[simp] theorem q_E_frW_5 : ∀ (x : Dx.Env) (c : PySem.Str) (fs : List (PySem.Str × Dx.D)) (io : List Dx.D), Dx.E.frW (Dx.Fr.ex c fs io) x = Dx.Z.ex c fs x := @Dx.E.frW.eq_5
@[simp] theorem q_E_frW_6 : ∀ (x : Dx.Env), Dx.E.frW Dx.Fr.bad x = Dx.Z.bad := @Dx.E.frW.eq_6
@[simp] theorem q_E_frI_1 : ∀ (i : Nat) (o : Bool) (x : Dx.Env) (w : Dx.W) (zs' : List Dx.D), Dx.E.frI i o (Dx.Fr.ok w zs') x = Dx.E.frW (Dx.Fr.ok w []) (List.set x i (Dx.Slot.ol o zs')) := @Dx.E.frI.eq_1
@[simp] theorem q_E_frI_2 : ∀ (i : Nat) (o : Bool) (x : Dx.Env) (c : PySem.Str) (fs : List (PySem.Str × Dx.D)) (zs' : List Dx.D), Dx.E.frI i o (Dx.Fr.ex c fs zs') x = Dx.Z.ex c fs (List.set x i (Dx.Slot.ol o zs')) := @Dx.E.frI.eq_2
@[simp] theorem q_E_frI_3 : ∀ (i : Nat) (o : Bool) (x : Dx.Env), Dx.E.frI i o Dx.Fr.bad x = Dx.Z.bad := @Dx.E.frI.eq_3
@[simp] theorem q_E_caI_1 : ∀ (m : List Dx.D → List Dx.D → Dx.Fr) (ds : List Dx.D) (i : Nat) (x : Dx.Env) (o : Bool) (zs : List Dx.D), Dx.E.caI m ds i (Option.some (Dx.Slot.ol o zs)) x = Dx.E.frI i o (m zs ds) x := @Dx.E.caI.eq_1
@[simp] theorem q_E_caI_2 : ∀ (m : List Dx.D → List Dx.D → Dx.Fr) (ds : List Dx.D) (i : Nat) (x : Option Dx.Slot) (x_1 : Dx.Env), (∀ (o : Bool) (zs : List Dx.D), x = Option.some (Dx.Slot.ol o zs) → False) → Dx.E.caI m ds i x x_1 = Dx.Z.bad := @Dx.E.caI.eq_2
@[simp] theorem q_E_isOl_1 : ∀ (o : Bool) (ds : List Dx.D), Dx.E.isOl (Option.some (Dx.Slot.ol o ds)) = Bool.true := @Dx.E.isOl.eq_1
@[simp] theorem q_E_isOl_2 : ∀ (x : Option Dx.Slot), (∀ (o : Bool) (ds : List Dx.D), x = Option.some (Dx.Slot.ol o ds) → False) → Dx.E.isOl x = Bool.false := @Dx.E.isOl.eq_2
@[simp] theorem q_T_valR_1 : ∀ (x : Dx.Env) (x_2 : Bool), Dx.T.valR (Dx.W.t (Dx.D.bl x_2)) x = Dx.Z.ok x_2 x := @Dx.T.valR.eq_1
@[simp] theorem q_T_valR_2 : ∀ (x : Dx.W) (x_1 : Dx.Env), (∀ (x_2 : Bool), x = Dx.W.t (Dx.D.bl x_2) → False) → Dx.T.valR x x_1 = Dx.Z.bad := @Dx.T.valR.eq_2
@[simp] theorem q_store_1 : ∀ (x : Nat) (x_1 : Dx.Env) (d : Dx.D), Dx.store x (Dx.W.t d) x_1 = Dx.Z.ok Dx.Sig.nx (List.set x_1 x (Dx.Slot.tr d)) := @Dx.store.eq_1
@[simp] theorem q_store_2 : ∀ (x : Nat) (x_1 : Dx.Env) (ds : List Dx.D), Dx.store x (Dx.W.f ds) x_1 = Dx.Z.ok Dx.Sig.nx (List.set x_1 x (Dx.Slot.ol Bool.false ds)) := @Dx.store.eq_2
@[simp] theorem q_store_3 : ∀ (x : Nat) (x_1 : Dx.Env) (b : Bool) (es : List (Dx.D × Dx.D)), Dx.store x (Dx.W.g b es) x_1 = Dx.Z.ok Dx.Sig.nx (List.set x_1 x (Dx.Slot.od b es)) := @Dx.store.eq_3
@[simp] theorem q_store_4 : ∀ (x : Nat) (x_1 : Dx.Env) (j : Nat), Dx.store x (Dx.W.o j) x_1 = Dx.Z.bind (Dx.fz (Dx.W.o j) x_1) fun (d : Dx.D) (ρ1 : Dx.Env) ↦ Dx.Z.ok Dx.Sig.nx (List.set ρ1 x (Dx.Slot.tr d)) := @Dx.store.eq_4
@[simp] theorem q_G_nil_1 : ∀ (x : Dx.Env), Dx.G.nil [] x = Option.some x := @Dx.G.nil.eq_1
@[simp] theorem q_G_nil_2 : ∀ (x : Dx.Env) (head : Dx.D) (tail : List Dx.D), Dx.G.nil (head :: tail) x = Option.none := @Dx.G.nil.eq_2
@[simp] theorem q_G_cons_1 : ∀ (g : Dx.GM) (gs : Dx.GMs) (x : Dx.Env) (d : Dx.D) (ds : List Dx.D), Dx.G.cons g gs (d :: ds) x = Option.bind (g d x) fun (ρ1 : Dx.Env) ↦ gs ds ρ1 := @Dx.G.cons.eq_1
@[simp] theorem q_G_cons_2 : ∀ (g : Dx.GM) (gs : Dx.GMs) (x : Dx.Env), Dx.G.cons g gs [] x = Option.none := @Dx.G.cons.eq_2
@[simp] theorem q_G_tup_1 : ∀ (n : Nat) (gs : Dx.GMs) (x : Dx.Env) (ds : List Dx.D), Dx.G.tup n gs (Dx.D.tup ds) x = if List.length ds = n then gs ds x else Option.none := @Dx.G.tup.eq_1
@[simp] theorem q_G_tup_2 : ∀ (n : Nat) (gs : Dx.GMs) (x : Dx.D) (x_1 : Dx.Env), (∀ (ds : List Dx.D), x = Dx.D.tup ds → False) → Dx.G.tup n gs x x_1 = Option.none := @Dx.G.tup.eq_2
@[simp] theorem q_foK_1 : ∀ (k : Dx.Env → Dx.Z Dx.Sig) (x : Dx.Env), Dx.foK k Dx.Sig.nx x = k x := @Dx.foK.eq_1
@[simp] theorem q_foK_2 : ∀ (k : Dx.Env → Dx.Z Dx.Sig) (x : Dx.Env), Dx.foK k Dx.Sig.ct x = k x := @Dx.foK.eq_2
@[simp] theorem q_foK_3 : ∀ (k : Dx.Env → Dx.Z Dx.Sig) (x : Dx.Env), Dx.foK k Dx.Sig.bk x = Dx.Z.ok Dx.Sig.nx x := @Dx.foK.eq_3
@[simp] theorem q_foK_4 : ∀ (k : Dx.Env → Dx.Z Dx.Sig) (x : Dx.Env) (w : Dx.W), Dx.foK k (Dx.Sig.rt w) x = Dx.Z.ok (Dx.Sig.rt w) x := @Dx.foK.eq_4
@[simp] theorem q_S_sqR_1 : ∀ (b : Dx.SM) (x : Dx.Env), Dx.S.sqR b Dx.Sig.nx x = b x := @Dx.S.sqR.eq_1
@[simp] theorem q_S_sqR_2 : ∀ (b : Dx.SM) (x : Dx.Env), Dx.S.sqR b Dx.Sig.bk x = Dx.Z.ok Dx.Sig.bk x := @Dx.S.sqR.eq_2
@[simp] theorem q_S_sqR_3 : ∀ (b : Dx.SM) (x : Dx.Env), Dx.S.sqR b Dx.Sig.ct x = Dx.Z.ok Dx.Sig.ct x := @Dx.S.sqR.eq_3
@[simp] theorem q_S_sqR_4 : ∀ (b : Dx.SM) (x : Dx.Env) (w : Dx.W), Dx.S.sqR b (Dx.Sig.rt w) x = Dx.Z.ok (Dx.Sig.rt w) x := @Dx.S.sqR.eq_4
@[simp] theorem q_S_toN_1 : ∀ (ρ : Dx.Env), Dx.S.toN (Option.some ρ) = Dx.Z.ok Dx.Sig.nx ρ := @Dx.S.toN.eq_1
@[simp] theorem q_S_toN_2 : Dx.S.toN Option.none = Dx.Z.bad := @Dx.S.toN.eq_2
@[simp] theorem q_S_retS_1 : ∀ (x : Nat) (x_1 : Dx.Env) (ds : List Dx.D), Dx.S.retS (Option.some (Dx.Slot.ol Bool.false ds)) x x_1 = Dx.Z.ok (Dx.Sig.rt (Dx.W.f ds)) (List.set x_1 x Dx.Slot.un) := @Dx.S.retS.eq_1
@[simp] theorem q_S_retS_2 : ∀ (x : Nat) (x_1 : Dx.Env) (ds : List Dx.D), Dx.S.retS (Option.some (Dx.Slot.ol Bool.true ds)) x x_1 = Dx.Z.bad := @Dx.S.retS.eq_2
@[simp] theorem q_S_retS_3 : ∀ (x : Nat) (x_1 : Dx.Env) (b : Bool) (es : List (Dx.D × Dx.D)), Dx.S.retS (Option.some (Dx.Slot.od b es)) x x_1 = Dx.Z.ok (Dx.Sig.rt (Dx.W.g b es)) (List.set x_1 x Dx.Slot.un) := @Dx.S.retS.eq_3
@[simp] theorem q_S_retS_4 : ∀ (x : Nat) (x_1 : Dx.Env) (d : Dx.D), Dx.S.retS (Option.some (Dx.Slot.tr d)) x x_1 = Dx.Z.ok (Dx.Sig.rt (Dx.W.t d)) x_1 := @Dx.S.retS.eq_4
@[simp] theorem q_S_retS_5 : ∀ (x : Nat) (x_1 : Dx.Env), Dx.S.retS (Option.some Dx.Slot.un) x x_1 = Dx.Z.bad := @Dx.S.retS.eq_5
@[simp] theorem q_S_retS_6 : ∀ (x : Nat) (x_1 : Dx.Env), Dx.S.retS Option.none x x_1 = Dx.Z.bad := @Dx.S.retS.eq_6
@[simp] theorem q_S_retW_1 : ∀ (x : Dx.Env) (i : Nat), Dx.S.retW (Dx.W.o i) x = Dx.S.retS x[i]? i x := @Dx.S.retW.eq_1
@[simp] theorem q_S_retW_2 : ∀ (x : Dx.Env) (d : Dx.D), Dx.S.retW (Dx.W.t d) x = Dx.Z.ok (Dx.Sig.rt (Dx.W.t d)) x := @Dx.S.retW.eq_2
@[simp] theorem q_S_retW_3 : ∀ (x : Dx.Env) (ds : List Dx.D), Dx.S.retW (Dx.W.f ds) x = Dx.Z.ok (Dx.Sig.rt (Dx.W.f ds)) x := @Dx.S.retW.eq_3
@[simp] theorem q_S_retW_4 : ∀ (x : Dx.Env) (b : Bool) (es : List (Dx.D × Dx.D)), Dx.S.retW (Dx.W.g b es) x = Dx.Z.ok (Dx.Sig.rt (Dx.W.g b es)) x := @Dx.S.retW.eq_4
@[simp] theorem q_S_onS_1 : ∀ (b : Dx.SM) (ρ : Dx.Env), Dx.S.onS b (Option.some ρ) = b ρ := @Dx.S.onS.eq_1
@[simp] theorem q_S_onS_2 : ∀ (b : Dx.SM), Dx.S.onS b Option.none = Dx.Z.bad := @Dx.S.onS.eq_2
@[simp] theorem q_S_auR_1 : ∀ (i : Nat) (f : Dx.D → Dx.D → Option Dx.W) (d0 : Dx.D) (x : Dx.Env) (d1 : Dx.D), Dx.S.auR i f d0 (Option.some d1) x = Dx.Z.bind (Dx.toW (f d0 d1) x) fun (w : Dx.W) (ρ2 : Dx.Env) ↦ Dx.store i w ρ2 := @Dx.S.auR.eq_1
@[simp] theorem q_S_auR_2 : ∀ (i : Nat) (f : Dx.D → Dx.D → Option Dx.W) (d0 : Dx.D) (x : Dx.Env), Dx.S.auR i f d0 Option.none x = Dx.Z.bad := @Dx.S.auR.eq_2
@[simp] theorem q_S_auS_1 : ∀ (i : Nat) (f : Dx.D → Dx.D → Option Dx.W) (e : Dx.EM) (x : Dx.Env) (d0 : Dx.D), Dx.S.auS i f e (Option.some (Dx.Slot.tr d0)) x = Dx.Z.bind (e x) fun (w : Dx.W) (ρ1 : Dx.Env) ↦ Dx.S.auR i f d0 (Dx.pk (Dx.W.st w) ρ1) ρ1 := @Dx.S.auS.eq_1
@[simp] theorem q_S_auS_2 : ∀ (i : Nat) (f : Dx.D → Dx.D → Option Dx.W) (e : Dx.EM) (x : Option Dx.Slot) (x_1 : Dx.Env), (∀ (d0 : Dx.D), x = Option.some (Dx.Slot.tr d0) → False) → Dx.S.auS i f e x x_1 = Dx.Z.bad := @Dx.S.auS.eq_2
@[simp] theorem q_plainS_1 : Dx.plainS (Option.some Dx.Slot.un) = Bool.true := @Dx.plainS.eq_1
@[simp] theorem q_plainS_2 : ∀ (d : Dx.D), Dx.plainS (Option.some (Dx.Slot.tr d)) = Bool.true := @Dx.plainS.eq_2
@[simp] theorem q_plainS_3 : ∀ (o : Bool) (ds : List Dx.D), Dx.plainS (Option.some (Dx.Slot.ol o ds)) = Bool.false := @Dx.plainS.eq_3
@[simp] theorem q_plainS_4 : ∀ (b : Bool) (kvs : List (Dx.D × Dx.D)), Dx.plainS (Option.some (Dx.Slot.od b kvs)) = Bool.false := @Dx.plainS.eq_4
@[simp] theorem q_plainS_5 : Dx.plainS Option.none = Bool.false := @Dx.plainS.eq_5
@[simp] theorem q_onL_1 : ∀ (k : Dx.Env → Dx.Z (List Dx.D)) (ρ : Dx.Env), Dx.onL k (Option.some ρ) = k ρ := @Dx.onL.eq_1
@[simp] theorem q_onL_2 : ∀ (k : Dx.Env → Dx.Z (List Dx.D)), Dx.onL k Option.none = Dx.Z.bad := @Dx.onL.eq_2
@[simp] theorem q_LM_append_1 : ∀ (x : List Dx.D) (e : Dx.D), Dx.LM.append x [e] = if List.length x < 16000000 then Option.some (Dx.D.non, x ++ [e]) else Option.none := @Dx.LM.append.eq_1
@[simp] theorem q_LM_append_2 : ∀ (x x_1 : List Dx.D), (∀ (e : Dx.D), x_1 = [e] → False) → Dx.LM.append x x_1 = Option.none := @Dx.LM.append.eq_2
@[simp] theorem q_LM_popO_1 : ∀ (ds : List Dx.D) (d : Dx.D), Dx.LM.popO ds (Option.some d) = Option.some (d, List.dropLast ds) := @Dx.LM.popO.eq_1
@[simp] theorem q_LM_popO_2 : ∀ (ds : List Dx.D), Dx.LM.popO ds Option.none = Option.none := @Dx.LM.popO.eq_2
@[simp] theorem q_LM_pop_1 : ∀ (x : List Dx.D), Dx.LM.pop x [] = Dx.LM.popO x x[List.length x - 1]? := @Dx.LM.pop.eq_1
@[simp] theorem q_LM_pop_2 : ∀ (x : List Dx.D) (head : Dx.D) (tail : List Dx.D), Dx.LM.pop x (head :: tail) = Option.none := @Dx.LM.pop.eq_2
@[simp] theorem q_LM_popAt_1 : ∀ (x : List Dx.D) (i : Int), Dx.LM.popAt x [Dx.D.int i] = if 0 ≤ i ∧ i < ↑(List.length x) ∧ i < 2 ^ 63 then Option.map (fun (d : Dx.D) ↦ (d, List.eraseIdx x (Int.toNat i))) x[Int.toNat i]? else Option.none := @Dx.LM.popAt.eq_1
@[simp] theorem q_LM_popAt_2 : ∀ (x x_1 : List Dx.D), (∀ (i : Int), x_1 = [Dx.D.int i] → False) → Dx.LM.popAt x x_1 = Option.none := @Dx.LM.popAt.eq_2
@[simp] theorem q_LM_insert_1 : ∀ (x : List Dx.D) (i : Int) (e : Dx.D), Dx.LM.insert x [Dx.D.int i, e] = if 0 ≤ i ∧ i < 2 ^ 63 ∧ List.length x < 16000000 then Option.some (Dx.D.non, List.take (Int.toNat i) x ++ [e] ++ List.drop (Int.toNat i) x) else Option.none := @Dx.LM.insert.eq_1
@[simp] theorem q_LM_insert_2 : ∀ (x x_1 : List Dx.D), (∀ (i : Int) (e : Dx.D), x_1 = [Dx.D.int i, e] → False) → Dx.LM.insert x x_1 = Option.none := @Dx.LM.insert.eq_2
@[simp] theorem q_E_lmO_1 : ∀ (i : Nat) (o : Bool) (x : Dx.Env) (d : Dx.D) (zs : List Dx.D), Dx.E.lmO i o (Option.some (d, zs)) x = Dx.Z.ok (Dx.W.t d) (List.set x i (Dx.Slot.ol o zs)) := @Dx.E.lmO.eq_1
@[simp] theorem q_E_lmO_2 : ∀ (i : Nat) (o : Bool) (x : Dx.Env), Dx.E.lmO i o Option.none x = Dx.Z.bad := @Dx.E.lmO.eq_2
@[simp] theorem q_E_lmR_1 : ∀ (f : Dx.LM) (ds : List Dx.D) (i : Nat) (x : Dx.Env) (o : Bool) (zs : List Dx.D), Dx.E.lmR f ds i (Option.some (Dx.Slot.ol o zs)) x = Dx.E.lmO i o (f zs ds) x := @Dx.E.lmR.eq_1
@[simp] theorem q_E_lmR_2 : ∀ (f : Dx.LM) (ds : List Dx.D) (i : Nat) (x : Option Dx.Slot) (x_1 : Dx.Env), (∀ (o : Bool) (zs : List Dx.D), x = Option.some (Dx.Slot.ol o zs) → False) → Dx.E.lmR f ds i x x_1 = Dx.Z.bad := @Dx.E.lmR.eq_2
@[simp] theorem q_E_extO_1 : ∀ (i j : Nat) (o : Bool) (zs : List Dx.D) (x : Dx.Env) (o_1 : Bool) (zs_1 : List Dx.D), Dx.E.extO i j o zs (Option.some (Dx.Slot.ol o_1 zs_1)) x = if j = i then Dx.Z.bad else if List.length zs + List.length zs_1 ≤ 16000000 then Dx.Z.ok (Dx.W.t Dx.D.non) (List.set x i (Dx.Slot.ol o (zs ++ zs_1))) else Dx.Z.bad := @Dx.E.extO.eq_1
@[simp] theorem q_E_extO_2 : ∀ (i j : Nat) (o : Bool) (zs : List Dx.D) (x : Option Dx.Slot) (x_1 : Dx.Env), (∀ (o : Bool) (zs : List Dx.D), x = Option.some (Dx.Slot.ol o zs) → False) → Dx.E.extO i j o zs x x_1 = Dx.Z.bad := @Dx.E.extO.eq_2
@[simp] theorem q_E_extR_1 : ∀ (i : Nat) (x : Dx.Env) (o : Bool) (zs es : List Dx.D), Dx.E.extR i (Option.some (Dx.Slot.ol o zs)) (Dx.W.f es) x = if List.length zs + List.length es ≤ 16000000 then Dx.Z.ok (Dx.W.t Dx.D.non) (List.set x i (Dx.Slot.ol o (zs ++ es))) else Dx.Z.bad := @Dx.E.extR.eq_1
@[simp] theorem q_E_extR_2 : ∀ (i : Nat) (x : Dx.Env) (o : Bool) (zs : List Dx.D) (j : Nat), Dx.E.extR i (Option.some (Dx.Slot.ol o zs)) (Dx.W.o j) x = Dx.E.extO i j o zs x[j]? x := @Dx.E.extR.eq_2
@[simp] theorem q_E_extR_3 : ∀ (i : Nat) (x : Option Dx.Slot) (x_1 : Dx.W) (x_2 : Dx.Env), (∀ (o : Bool) (zs es : List Dx.D), x = Option.some (Dx.Slot.ol o zs) → x_1 = Dx.W.f es → False) → (∀ (o : Bool) (zs : List Dx.D) (j : Nat), x = Option.some (Dx.Slot.ol o zs) → x_1 = Dx.W.o j → False) → Dx.E.extR i x x_1 x_2 = Dx.Z.bad := @Dx.E.extR.eq_3
@[simp] theorem q_setiR_1 : ∀ (i : Nat) (d : Dx.D) (x : Dx.Env) (k : Int) (o : Bool) (zs : List Dx.D), Dx.setiR i d (Option.some (Dx.D.int k)) (Option.some (Dx.Slot.ol o zs)) x = if 0 ≤ k ∧ k < ↑(List.length zs) then Dx.Z.ok Dx.Sig.nx (List.set x i (Dx.Slot.ol o (List.set zs (Int.toNat k) d))) else Dx.Z.bad := @Dx.setiR.eq_1
@[simp] theorem q_setiR_2 : ∀ (i : Nat) (d : Dx.D) (x : Option Dx.D) (x_1 : Option Dx.Slot) (x_2 : Dx.Env), (∀ (k : Int) (o : Bool) (zs : List Dx.D), x = Option.some (Dx.D.int k) → x_1 = Option.some (Dx.Slot.ol o zs) → False) → Dx.setiR i d x x_1 x_2 = Dx.Z.bad := @Dx.setiR.eq_2
@[simp] theorem q_endP_1 : ∀ (d : Dx.D) (ρ : Dx.Env), Dx.endP (Dx.Z.ok (Dx.Sig.rt (Dx.W.t d)) ρ) = Dx.Fr.ok (Dx.W.t d) [] := @Dx.endP.eq_1
@[simp] theorem q_endP_2 : ∀ (ds : List Dx.D) (ρ : Dx.Env), Dx.endP (Dx.Z.ok (Dx.Sig.rt (Dx.W.f ds)) ρ) = Dx.Fr.ok (Dx.W.f ds) [] := @Dx.endP.eq_2
@[simp] theorem q_endP_3 : ∀ (b : Bool) (es : List (Dx.D × Dx.D)) (ρ : Dx.Env), Dx.endP (Dx.Z.ok (Dx.Sig.rt (Dx.W.g b es)) ρ) = Dx.Fr.ok (Dx.W.g b es) [] := @Dx.endP.eq_3
@[simp] theorem q_endP_4 : ∀ (i : Nat) (ρ : Dx.Env), Dx.endP (Dx.Z.ok (Dx.Sig.rt (Dx.W.o i)) ρ) = Dx.Fr.bad := @Dx.endP.eq_4
@[simp] theorem q_endP_5 : ∀ (ρ : Dx.Env), Dx.endP (Dx.Z.ok Dx.Sig.nx ρ) = Dx.Fr.ok (Dx.W.t Dx.D.non) [] := @Dx.endP.eq_5
@[simp] theorem q_endP_6 : ∀ (ρ : Dx.Env), Dx.endP (Dx.Z.ok Dx.Sig.bk ρ) = Dx.Fr.bad := @Dx.endP.eq_6
@[simp] theorem q_endP_7 : ∀ (ρ : Dx.Env), Dx.endP (Dx.Z.ok Dx.Sig.ct ρ) = Dx.Fr.bad := @Dx.endP.eq_7
@[simp] theorem q_endP_8 : ∀ (c : PySem.Str) (fs : List (PySem.Str × Dx.D)) (ρ : Dx.Env), Dx.endP (Dx.Z.ex c fs ρ) = Dx.Fr.ex c fs [] := @Dx.endP.eq_8
@[simp] theorem q_endP_9 : Dx.endP Dx.Z.bad = Dx.Fr.bad := @Dx.endP.eq_9
@[simp] theorem q_ioS_1 : ∀ (k : List Dx.D → Dx.Fr) (zs : List Dx.D), Dx.ioS k (Option.some (Dx.Slot.ol Bool.true zs)) = k zs := @Dx.ioS.eq_1
@[simp] theorem q_ioS_2 : ∀ (k : List Dx.D → Dx.Fr) (x : Option Dx.Slot), (∀ (zs : List Dx.D), x = Option.some (Dx.Slot.ol Bool.true zs) → False) → Dx.ioS k x = Dx.Fr.bad := @Dx.ioS.eq_2
@[simp] theorem q_endI_1 : ∀ (d : Dx.D) (ρ : Dx.Env), Dx.endI (Dx.Z.ok (Dx.Sig.rt (Dx.W.t d)) ρ) = Dx.ioOf ρ fun (zs : List Dx.D) ↦ Dx.Fr.ok (Dx.W.t d) zs := @Dx.endI.eq_1
@[simp] theorem q_endI_2 : ∀ (ds : List Dx.D) (ρ : Dx.Env), Dx.endI (Dx.Z.ok (Dx.Sig.rt (Dx.W.f ds)) ρ) = Dx.ioOf ρ fun (zs : List Dx.D) ↦ Dx.Fr.ok (Dx.W.f ds) zs := @Dx.endI.eq_2
@[simp] theorem q_endI_3 : ∀ (b : Bool) (es : List (Dx.D × Dx.D)) (ρ : Dx.Env), Dx.endI (Dx.Z.ok (Dx.Sig.rt (Dx.W.g b es)) ρ) = Dx.ioOf ρ fun (zs : List Dx.D) ↦ Dx.Fr.ok (Dx.W.g b es) zs := @Dx.endI.eq_3
@[simp] theorem q_endI_4 : ∀ (i : Nat) (ρ : Dx.Env), Dx.endI (Dx.Z.ok (Dx.Sig.rt (Dx.W.o i)) ρ) = Dx.Fr.bad := @Dx.endI.eq_4
@[simp] theorem q_endI_5 : ∀ (ρ : Dx.Env), Dx.endI (Dx.Z.ok Dx.Sig.nx ρ) = Dx.ioOf ρ fun (zs : List Dx.D) ↦ Dx.Fr.ok (Dx.W.t Dx.D.non) zs := @Dx.endI.eq_5
@[simp] theorem q_endI_6 : ∀ (ρ : Dx.Env), Dx.endI (Dx.Z.ok Dx.Sig.bk ρ) = Dx.Fr.bad := @Dx.endI.eq_6
@[simp] theorem q_endI_7 : ∀ (ρ : Dx.Env), Dx.endI (Dx.Z.ok Dx.Sig.ct ρ) = Dx.Fr.bad := @Dx.endI.eq_7
@[simp] theorem q_endI_8 : ∀ (c : PySem.Str) (fs : List (PySem.Str × Dx.D)) (ρ : Dx.Env), Dx.endI (Dx.Z.ex c fs ρ) = Dx.ioOf ρ fun (zs : List Dx.D) ↦ Dx.Fr.ex c fs zs := @Dx.endI.eq_8
@[simp] theorem q_endI_9 : Dx.endI Dx.Z.bad = Dx.Fr.bad := @Dx.endI.eq_9
@[simp] theorem q_D_flat_1 : Dx.D.flat Dx.D.non = Option.some L2.V.non := @Dx.D.flat.eq_1
@[simp] theorem q_D_flat_2 : ∀ (b : Bool), Dx.D.flat (Dx.D.bl b) = Option.some (L2.V.bl b) := @Dx.D.flat.eq_2
@[simp] theorem q_D_flat_3 : ∀ (i : Int), Dx.D.flat (Dx.D.int i) = Option.some (L2.V.int i) := @Dx.D.flat.eq_3
@[simp] theorem q_D_flat_4 : ∀ (s : PySem.Str), Dx.D.flat (Dx.D.str s) = Option.some (L2.V.str s) := @Dx.D.flat.eq_4
@[simp] theorem q_D_flat_5 : ∀ (x : Dx.D), (x = Dx.D.non → False) → (∀ (b : Bool), x = Dx.D.bl b → False) → (∀ (i : Int), x = Dx.D.int i → False) → (∀ (s : PySem.Str), x = Dx.D.str s → False) → Dx.D.flat x = Option.none := @Dx.D.flat.eq_5
@[simp] theorem q_isNon_1 : Dx.isNon Dx.D.non = Bool.true := @Dx.isNon.eq_1
@[simp] theorem q_isNon_2 : ∀ (x : Dx.D), (x = Dx.D.non → False) → Dx.isNon x = Bool.false := @Dx.isNon.eq_2
@[simp] theorem q_O_add_1 : ∀ (a b : Int), Dx.O.add (Dx.D.int a) (Dx.D.int b) = Dx.wi (a + b) := @Dx.O.add.eq_1
@[simp] theorem q_O_add_2 : ∀ (a b : PySem.Str), Dx.O.add (Dx.D.str a) (Dx.D.str b) = if PySem.Str.length a + PySem.Str.length b ≤ 16000000 then Dx.ws (a ++ b) else Option.none := @Dx.O.add.eq_2
@[simp] theorem q_O_add_3 : ∀ (a b : List Dx.D), Dx.O.add (Dx.D.lst a) (Dx.D.lst b) = if List.length a + List.length b ≤ 16000000 then Option.some (Dx.W.f (a ++ b)) else Option.none := @Dx.O.add.eq_3
@[simp] theorem q_O_add_4 : ∀ (a b : List Dx.D), Dx.O.add (Dx.D.tup a) (Dx.D.tup b) = if List.length a + List.length b ≤ 16000000 ∧ a ≠ [] ∧ b ≠ [] then Option.some (Dx.W.t (Dx.D.tup (a ++ b))) else Option.none := @Dx.O.add.eq_4
@[simp] theorem q_O_add_5 : ∀ (x x_1 : Dx.D), (∀ (a b : Int), x = Dx.D.int a → x_1 = Dx.D.int b → False) → (∀ (a b : PySem.Str), x = Dx.D.str a → x_1 = Dx.D.str b → False) → (∀ (a b : List Dx.D), x = Dx.D.lst a → x_1 = Dx.D.lst b → False) → (∀ (a b : List Dx.D), x = Dx.D.tup a → x_1 = Dx.D.tup b → False) → Dx.O.add x x_1 = Option.none := @Dx.O.add.eq_5
@[simp] theorem q_O_sub_1 : ∀ (a b : Int), Dx.O.sub (Dx.D.int a) (Dx.D.int b) = Dx.wi (a - b) := @Dx.O.sub.eq_1
@[simp] theorem q_O_sub_2 : ∀ (x x_1 : Dx.D), (∀ (a b : Int), x = Dx.D.int a → x_1 = Dx.D.int b → False) → Dx.O.sub x x_1 = Option.none := @Dx.O.sub.eq_2
@[simp] theorem q_O_mul_1 : ∀ (a b : Int), Dx.O.mul (Dx.D.int a) (Dx.D.int b) = if -2 ^ 64 < a ∧ a < 2 ^ 64 ∨ -2 ^ 64 < b ∧ b < 2 ^ 64 then Dx.wi (a * b) else Option.none := @Dx.O.mul.eq_1
@[simp] theorem q_O_mul_2 : ∀ (z : PySem.Str) (b : Int), Dx.O.mul (Dx.D.str z) (Dx.D.int b) = if 0 ≤ b ∧ b ≤ 1000000 ∧ PySem.Str.length z ≤ 1000000 ∧ PySem.Str.length z * Int.toNat b ≤ 1000000 then Dx.ws (Hx.mulS z (Int.toNat b)) else Option.none := @Dx.O.mul.eq_2
@[simp] theorem q_O_mul_3 : ∀ (a : List Dx.D) (b : Int), Dx.O.mul (Dx.D.lst a) (Dx.D.int b) = if b ≤ 1000000 ∧ -1000000 ≤ b ∧ List.length a * Int.toNat b ≤ 16000000 then Option.some (Dx.W.f (Dx.repD a (Int.toNat b))) else Option.none := @Dx.O.mul.eq_3
@[simp] theorem q_O_mul_4 : ∀ (x x_1 : Dx.D), (∀ (a b : Int), x = Dx.D.int a → x_1 = Dx.D.int b → False) → (∀ (z : PySem.Str) (b : Int), x = Dx.D.str z → x_1 = Dx.D.int b → False) → (∀ (a : List Dx.D) (b : Int), x = Dx.D.lst a → x_1 = Dx.D.int b → False) → Dx.O.mul x x_1 = Option.none := @Dx.O.mul.eq_4
@[simp] theorem q_O_mod_1 : ∀ (a b : Int), Dx.O.mod (Dx.D.int a) (Dx.D.int b) = if 0 < b then Dx.wi (a % b) else Option.none := @Dx.O.mod.eq_1
@[simp] theorem q_O_mod_2 : ∀ (x x_1 : Dx.D), (∀ (a b : Int), x = Dx.D.int a → x_1 = Dx.D.int b → False) → Dx.O.mod x x_1 = Option.none := @Dx.O.mod.eq_2
@[simp] theorem q_O_fdiv_1 : ∀ (a b : Int), Dx.O.fdiv (Dx.D.int a) (Dx.D.int b) = if 0 < b ∧ b < 1073741824 then Dx.wi (a / b) else Option.none := @Dx.O.fdiv.eq_1
@[simp] theorem q_O_fdiv_2 : ∀ (x x_1 : Dx.D), (∀ (a b : Int), x = Dx.D.int a → x_1 = Dx.D.int b → False) → Dx.O.fdiv x x_1 = Option.none := @Dx.O.fdiv.eq_2
@[simp] theorem q_O_pow_1 : ∀ (a b : Int), Dx.O.pow (Dx.D.int a) (Dx.D.int b) = if 0 ≤ b ∧ b ≤ 1000000 ∧ Int.natAbs a < 2 ^ 64 then Dx.wi (a ^ Int.toNat b) else Option.none := @Dx.O.pow.eq_1
@[simp] theorem q_O_pow_2 : ∀ (x x_1 : Dx.D), (∀ (a b : Int), x = Dx.D.int a → x_1 = Dx.D.int b → False) → Dx.O.pow x x_1 = Option.none := @Dx.O.pow.eq_2
@[simp] theorem q_O_xor_1 : ∀ (a b : Int), Dx.O.xor (Dx.D.int a) (Dx.D.int b) = Dx.wi (PySem.Builtin.bitXor a b) := @Dx.O.xor.eq_1
@[simp] theorem q_O_xor_2 : ∀ (x x_1 : Dx.D), (∀ (a b : Int), x = Dx.D.int a → x_1 = Dx.D.int b → False) → Dx.O.xor x x_1 = Option.none := @Dx.O.xor.eq_2
@[simp] theorem q_O_lt_1 : ∀ (a b : Int), Dx.O.lt (Dx.D.int a) (Dx.D.int b) = Dx.wb (Decidable.decide (a < b)) := @Dx.O.lt.eq_1
@[simp] theorem q_O_lt_2 : ∀ (x x_1 : Dx.D), (∀ (a b : Int), x = Dx.D.int a → x_1 = Dx.D.int b → False) → Dx.O.lt x x_1 = if Dx.D.plain x = Bool.true ∧ Dx.D.plain x_1 = Bool.true ∧ PySem.W.alike (Dx.D.py x) (Dx.D.py x_1) = Bool.true ∧ PySem.PyData.depth (Dx.D.py x) ≤ 60 ∧ Dx.isNon x = Bool.false then Dx.wb (PySem.W.dataLt (Dx.D.py x) (Dx.D.py x_1)) else Option.none := @Dx.O.lt.eq_2
@[simp] theorem q_O_le_1 : ∀ (a b : Int), Dx.O.le (Dx.D.int a) (Dx.D.int b) = Dx.wb (Decidable.decide (a ≤ b)) := @Dx.O.le.eq_1
@[simp] theorem q_O_le_2 : ∀ (x x_1 : Dx.D), (∀ (a b : Int), x = Dx.D.int a → x_1 = Dx.D.int b → False) → Dx.O.le x x_1 = Option.none := @Dx.O.le.eq_2
@[simp] theorem q_O_gt_1 : ∀ (a b : Int), Dx.O.gt (Dx.D.int a) (Dx.D.int b) = Dx.wb (Decidable.decide (b < a)) := @Dx.O.gt.eq_1
@[simp] theorem q_O_gt_2 : ∀ (x x_1 : Dx.D), (∀ (a b : Int), x = Dx.D.int a → x_1 = Dx.D.int b → False) → Dx.O.gt x x_1 = Option.none := @Dx.O.gt.eq_2
@[simp] theorem q_O_ge_1 : ∀ (a b : Int), Dx.O.ge (Dx.D.int a) (Dx.D.int b) = Dx.wb (Decidable.decide (b ≤ a)) := @Dx.O.ge.eq_1
@[simp] theorem q_O_ge_2 : ∀ (x x_1 : Dx.D), (∀ (a b : Int), x = Dx.D.int a → x_1 = Dx.D.int b → False) → Dx.O.ge x x_1 = Option.none := @Dx.O.ge.eq_2
@[simp] theorem q_O_isN_1 : ∀ (x : Dx.D), Dx.O.isN x Dx.D.non = Dx.wb (Dx.isNon x) := @Dx.O.isN.eq_1
@[simp] theorem q_O_isN_2 : ∀ (x x_1 : Dx.D), (x_1 = Dx.D.non → False) → Dx.O.isN x x_1 = Option.none := @Dx.O.isN.eq_2
@[simp] theorem q_O_notN_1 : ∀ (x : Dx.D), Dx.O.notN x Dx.D.non = Dx.wb !Dx.isNon x := @Dx.O.notN.eq_1
@[simp] theorem q_O_notN_2 : ∀ (x x_1 : Dx.D), (x_1 = Dx.D.non → False) → Dx.O.notN x x_1 = Option.none := @Dx.O.notN.eq_2
@[simp] theorem q_O_neg_1 : ∀ (a : Int), Dx.O.neg (Dx.D.int a) = Dx.wi (-a) := @Dx.O.neg.eq_1
@[simp] theorem q_O_neg_2 : ∀ (x : Dx.D), (∀ (a : Int), x = Dx.D.int a → False) → Dx.O.neg x = Option.none := @Dx.O.neg.eq_2
@[simp] theorem q_D_tyc_1 : Dx.D.tyc Dx.D.non = Option.some Dx.Ty.non := @Dx.D.tyc.eq_1
@[simp] theorem q_D_tyc_2 : ∀ (b : Bool), Dx.D.tyc (Dx.D.bl b) = Option.some Dx.Ty.bl := @Dx.D.tyc.eq_2
@[simp] theorem q_D_tyc_3 : ∀ (i : Int), Dx.D.tyc (Dx.D.int i) = Option.some Dx.Ty.int := @Dx.D.tyc.eq_3
@[simp] theorem q_D_tyc_4 : ∀ (s : PySem.Str), Dx.D.tyc (Dx.D.str s) = Option.some Dx.Ty.str := @Dx.D.tyc.eq_4
@[simp] theorem q_D_tyc_5 : ∀ (ds : List Dx.D), Dx.D.tyc (Dx.D.lst ds) = Option.some Dx.Ty.lst := @Dx.D.tyc.eq_5
@[simp] theorem q_D_tyc_6 : ∀ (ds : List Dx.D), Dx.D.tyc (Dx.D.scr ds) = Option.some Dx.Ty.lst := @Dx.D.tyc.eq_6
@[simp] theorem q_D_tyc_7 : ∀ (ds : List Dx.D), Dx.D.tyc (Dx.D.tup ds) = Option.some Dx.Ty.tup := @Dx.D.tyc.eq_7
@[simp] theorem q_D_tyc_8 : ∀ (kvs : List (Dx.D × Dx.D)), Dx.D.tyc (Dx.D.dct kvs) = Option.some Dx.Ty.dct := @Dx.D.tyc.eq_8
@[simp] theorem q_D_tyc_9 : ∀ (x : Dx.D), (x = Dx.D.non → False) → (∀ (b : Bool), x = Dx.D.bl b → False) → (∀ (i : Int), x = Dx.D.int i → False) → (∀ (s : PySem.Str), x = Dx.D.str s → False) → (∀ (ds : List Dx.D), x = Dx.D.lst ds → False) → (∀ (ds : List Dx.D), x = Dx.D.scr ds → False) → (∀ (ds : List Dx.D), x = Dx.D.tup ds → False) → (∀ (kvs : List (Dx.D × Dx.D)), x = Dx.D.dct kvs → False) → Dx.D.tyc x = Option.none := @Dx.D.tyc.eq_9
@[simp] theorem q_isaB_1 : Dx.isaB Dx.Ty.bl Dx.Ty.int = Bool.true := @Dx.isaB.eq_1
@[simp] theorem q_isaB_2 : ∀ (x x_1 : Dx.Ty), (x = Dx.Ty.bl → x_1 = Dx.Ty.int → False) → Dx.isaB x x_1 = Decidable.decide (x = x_1) := @Dx.isaB.eq_2
@[simp] theorem q_itemsOf_1 : ∀ (ds : List Dx.D), Dx.itemsOf (Dx.D.lst ds) = Option.some ds := @Dx.itemsOf.eq_1
@[simp] theorem q_itemsOf_2 : ∀ (ds : List Dx.D), Dx.itemsOf (Dx.D.tup ds) = Option.some ds := @Dx.itemsOf.eq_2
@[simp] theorem q_itemsOf_3 : ∀ (ds : List Dx.D), Dx.itemsOf (Dx.D.scr ds) = Option.some ds := @Dx.itemsOf.eq_3
@[simp] theorem q_itemsOf_4 : ∀ (s : PySem.Str), Dx.itemsOf (Dx.D.str s) = Option.some (List.map (fun (c : Nat) ↦ Dx.D.str { cps := #[c] }) (Array.toList (PySem.Str.cps s))) := @Dx.itemsOf.eq_4
@[simp] theorem q_itemsOf_5 : ∀ (x : Dx.D), (∀ (ds : List Dx.D), x = Dx.D.lst ds → False) → (∀ (ds : List Dx.D), x = Dx.D.tup ds → False) → (∀ (ds : List Dx.D), x = Dx.D.scr ds → False) → (∀ (s : PySem.Str), x = Dx.D.str s → False) → Dx.itemsOf x = Option.none := @Dx.itemsOf.eq_5
@[simp] theorem q_O_inn_1 : ∀ (c z : PySem.Str),
  Dx.O.inn (Dx.D.str c) (Dx.D.str z) =
    match Array.toList (PySem.Str.cps c) with
    | [k] => Dx.wb (Decidable.decide (k ∈ Array.toList (PySem.Str.cps z)))
    | x => Option.none := @Dx.O.inn.eq_1
@[simp] theorem q_O_inn_2 : ∀ (x : Dx.D) (ds : List Dx.D),
  Dx.O.inn x (Dx.D.lst ds) =
    match Dx.D.flat x, Dx.D.flats ds with
    | Option.some v, Option.some vs => Dx.wb (L2.inV v vs)
    | x, x_1 => Option.none := @Dx.O.inn.eq_2
@[simp] theorem q_O_inn_3 : ∀ (x : Dx.D) (ds : List Dx.D),
  Dx.O.inn x (Dx.D.tup ds) =
    match Dx.D.flat x, Dx.D.flats ds with
    | Option.some v, Option.some vs => Dx.wb (L2.inV v vs)
    | x, x_1 => Option.none := @Dx.O.inn.eq_3
@[simp] theorem q_O_inn_4 : ∀ (x x_1 : Dx.D), (∀ (ds : List Dx.D), x_1 = Dx.D.lst ds → False) → (∀ (ds : List Dx.D), x_1 = Dx.D.tup ds → False) → (∀ (c z : PySem.Str), x = Dx.D.str c → x_1 = Dx.D.str z → False) → Dx.O.inn x x_1 = Option.none := @Dx.O.inn.eq_4
@[simp] theorem q_O_nin_1 : ∀ (c z : PySem.Str),
  Dx.O.nin (Dx.D.str c) (Dx.D.str z) =
    match Array.toList (PySem.Str.cps c) with
    | [k] => Dx.wb !Decidable.decide (k ∈ Array.toList (PySem.Str.cps z))
    | x => Option.none := @Dx.O.nin.eq_1
@[simp] theorem q_O_nin_2 : ∀ (x : Dx.D) (ds : List Dx.D),
  Dx.O.nin x (Dx.D.lst ds) =
    match Dx.D.flat x, Dx.D.flats ds with
    | Option.some v, Option.some vs => Dx.wb !L2.inV v vs
    | x, x_1 => Option.none := @Dx.O.nin.eq_2
@[simp] theorem q_O_nin_3 : ∀ (x : Dx.D) (ds : List Dx.D),
  Dx.O.nin x (Dx.D.tup ds) =
    match Dx.D.flat x, Dx.D.flats ds with
    | Option.some v, Option.some vs => Dx.wb !L2.inV v vs
    | x, x_1 => Option.none := @Dx.O.nin.eq_3
@[simp] theorem q_O_nin_4 : ∀ (x x_1 : Dx.D), (∀ (ds : List Dx.D), x_1 = Dx.D.lst ds → False) → (∀ (ds : List Dx.D), x_1 = Dx.D.tup ds → False) → (∀ (c z : PySem.Str), x = Dx.D.str c → x_1 = Dx.D.str z → False) → Dx.O.nin x x_1 = Option.none := @Dx.O.nin.eq_4
@[simp] theorem q_O_isB_1 : ∀ (b x_1 : Bool), Dx.O.isB b (Dx.D.bl x_1) = Dx.wb (Decidable.decide (x_1 = b)) := @Dx.O.isB.eq_1
@[simp] theorem q_O_isB_2 : ∀ (b : Bool) (c : PySem.Str) (fs : List (PySem.Str × Dx.D)), Dx.O.isB b (Dx.D.ins c fs) = Option.none := @Dx.O.isB.eq_2
@[simp] theorem q_O_isB_3 : ∀ (b : Bool) (n : String), Dx.O.isB b (Dx.D.ty n) = Option.none := @Dx.O.isB.eq_3
@[simp] theorem q_O_isB_4 : ∀ (b : Bool) (x : Dx.D), (∀ (x_1 : Bool), x = Dx.D.bl x_1 → False) → (∀ (c : PySem.Str) (fs : List (PySem.Str × Dx.D)), x = Dx.D.ins c fs → False) → (∀ (n : String), x = Dx.D.ty n → False) → Dx.O.isB b x = Dx.wb Bool.false := @Dx.O.isB.eq_4
@[simp] theorem q_O_ix_1 : ∀ (ds : List Dx.D) (i : Int), Dx.O.ix (Dx.D.lst ds) (Dx.D.int i) = Option.map Dx.W.t (L2.atI ds i) := @Dx.O.ix.eq_1
@[simp] theorem q_O_ix_2 : ∀ (ds : List Dx.D) (i : Int), Dx.O.ix (Dx.D.tup ds) (Dx.D.int i) = Option.map Dx.W.t (L2.atI ds i) := @Dx.O.ix.eq_2
@[simp] theorem q_O_ix_3 : ∀ (ds : List Dx.D) (i : Int), Dx.O.ix (Dx.D.scr ds) (Dx.D.int i) = Option.map Dx.W.t (L2.atI ds i) := @Dx.O.ix.eq_3
@[simp] theorem q_O_ix_4 : ∀ (z : PySem.Str) (i : Int), Dx.O.ix (Dx.D.str z) (Dx.D.int i) = if PySem.Str.length z ≤ 16000000 then Option.map (fun (c : Nat) ↦ Dx.W.t (Dx.D.str { cps := #[c] })) (L2.atI (Array.toList (PySem.Str.cps z)) i) else Option.none := @Dx.O.ix.eq_4
@[simp] theorem q_O_ix_5 : ∀ (x x_1 : Dx.D), (∀ (ds : List Dx.D) (i : Int), x = Dx.D.lst ds → x_1 = Dx.D.int i → False) → (∀ (ds : List Dx.D) (i : Int), x = Dx.D.tup ds → x_1 = Dx.D.int i → False) → (∀ (ds : List Dx.D) (i : Int), x = Dx.D.scr ds → x_1 = Dx.D.int i → False) → (∀ (z : PySem.Str) (i : Int), x = Dx.D.str z → x_1 = Dx.D.int i → False) → Dx.O.ix x x_1 = Option.none := @Dx.O.ix.eq_5
@[simp] theorem q_O_sl_1 : ∀ (lo hi : Option Int) (ds : List Dx.D), Dx.O.sl lo hi (Dx.D.lst ds) = Option.some (Dx.W.f (Dx.cutD ds lo hi)) := @Dx.O.sl.eq_1
@[simp] theorem q_O_sl_2 : ∀ (lo hi : Option Int) (ds : List Dx.D), Dx.O.sl lo hi (Dx.D.scr ds) = Option.some (Dx.W.f (Dx.cutD ds lo hi)) := @Dx.O.sl.eq_2
@[simp] theorem q_O_sl_3 : ∀ (lo hi : Option Int) (z : PySem.Str), Dx.O.sl lo hi (Dx.D.str z) = if PySem.Str.length z ≤ 16000000 then Dx.ws (L2.cutS z lo hi) else Option.none := @Dx.O.sl.eq_3
@[simp] theorem q_O_sl_4 : ∀ (lo hi : Option Int) (ds : List Dx.D), Dx.O.sl lo hi (Dx.D.tup ds) = if HT.sIx (List.length ds) 0 lo = 0 ∧ HT.sIx (List.length ds) (List.length ds) hi = List.length ds then Option.none else Option.some (Dx.W.t (Dx.D.tup (Dx.cutD ds lo hi))) := @Dx.O.sl.eq_4
@[simp] theorem q_O_sl_5 : ∀ (lo hi : Option Int) (x : Dx.D), (∀ (ds : List Dx.D), x = Dx.D.lst ds → False) → (∀ (ds : List Dx.D), x = Dx.D.scr ds → False) → (∀ (z : PySem.Str), x = Dx.D.str z → False) → (∀ (ds : List Dx.D), x = Dx.D.tup ds → False) → Dx.O.sl lo hi x = Option.none := @Dx.O.sl.eq_5
@[simp] theorem q_O_rev_1 : ∀ (z : PySem.Str), Dx.O.rev (Dx.D.str z) = if PySem.Str.length z ≤ 16000000 then Dx.ws { cps := List.toArray (List.reverse (Array.toList (PySem.Str.cps z))) } else Option.none := @Dx.O.rev.eq_1
@[simp] theorem q_O_rev_2 : ∀ (x : Dx.D), (∀ (z : PySem.Str), x = Dx.D.str z → False) → Dx.O.rev x = Option.none := @Dx.O.rev.eq_2
@[simp] theorem q_O_revL_1 : ∀ (ds : List Dx.D), Dx.O.revL (Dx.D.lst ds) = Option.some (Dx.W.f (List.reverse ds)) := @Dx.O.revL.eq_1
@[simp] theorem q_O_revL_2 : ∀ (x : Dx.D), (∀ (ds : List Dx.D), x = Dx.D.lst ds → False) → Dx.O.revL x = Option.none := @Dx.O.revL.eq_2
@[simp] theorem q_O_len_1 : ∀ (z : PySem.Str), Dx.O.len [Dx.D.str z] = if PySem.Str.length z ≤ 16000000 then Dx.wi ↑(PySem.Str.length z) else Option.none := @Dx.O.len.eq_1
@[simp] theorem q_O_len_2 : ∀ (ds : List Dx.D), Dx.O.len [Dx.D.lst ds] = Dx.wi ↑(List.length ds) := @Dx.O.len.eq_2
@[simp] theorem q_O_len_3 : ∀ (ds : List Dx.D), Dx.O.len [Dx.D.tup ds] = Dx.wi ↑(List.length ds) := @Dx.O.len.eq_3
@[simp] theorem q_O_len_4 : ∀ (ds : List Dx.D), Dx.O.len [Dx.D.scr ds] = Dx.wi ↑(List.length ds) := @Dx.O.len.eq_4
@[simp] theorem q_O_len_5 : ∀ (x : List Dx.D), (∀ (z : PySem.Str), x = [Dx.D.str z] → False) → (∀ (ds : List Dx.D), x = [Dx.D.lst ds] → False) → (∀ (ds : List Dx.D), x = [Dx.D.tup ds] → False) → (∀ (ds : List Dx.D), x = [Dx.D.scr ds] → False) → Dx.O.len x = Option.none := @Dx.O.len.eq_5
@[simp] theorem q_O_max_1 : ∀ (i j : Int), Dx.O.max [Dx.D.int i, Dx.D.int j] = Dx.wi (Max.max i j) := @Dx.O.max.eq_1
@[simp] theorem q_O_max_2 : ∀ (ds : List Dx.D), Dx.O.max [Dx.D.lst ds] = Dx.O.hdI Dx.O.maxL (Dx.intsOf ds) := @Dx.O.max.eq_2
@[simp] theorem q_O_max_3 : ∀ (x : List Dx.D), (∀ (i j : Int), x = [Dx.D.int i, Dx.D.int j] → False) → (∀ (ds : List Dx.D), x = [Dx.D.lst ds] → False) → Dx.O.max x = Option.none := @Dx.O.max.eq_3
@[simp] theorem q_O_min_1 : ∀ (i j : Int), Dx.O.min [Dx.D.int i, Dx.D.int j] = Dx.wi (Min.min i j) := @Dx.O.min.eq_1
@[simp] theorem q_O_min_2 : ∀ (ds : List Dx.D), Dx.O.min [Dx.D.lst ds] = Dx.O.hdI Dx.O.minL (Dx.intsOf ds) := @Dx.O.min.eq_2
@[simp] theorem q_O_min_3 : ∀ (x : List Dx.D), (∀ (i j : Int), x = [Dx.D.int i, Dx.D.int j] → False) → (∀ (ds : List Dx.D), x = [Dx.D.lst ds] → False) → Dx.O.min x = Option.none := @Dx.O.min.eq_3
@[simp] theorem q_O_all_1 : ∀ (ds : List Dx.D), Dx.O.all [Dx.D.lst ds] = Option.map (fun (bs : List Bool) ↦ Dx.W.t (Dx.D.bl (List.all bs id))) (Dx.blsOf ds) := @Dx.O.all.eq_1
@[simp] theorem q_O_all_2 : ∀ (x : List Dx.D), (∀ (ds : List Dx.D), x = [Dx.D.lst ds] → False) → Dx.O.all x = Option.none := @Dx.O.all.eq_2
@[simp] theorem q_O_any_1 : ∀ (ds : List Dx.D), Dx.O.any [Dx.D.lst ds] = Option.map (fun (bs : List Bool) ↦ Dx.W.t (Dx.D.bl (List.any bs id))) (Dx.blsOf ds) := @Dx.O.any.eq_1
@[simp] theorem q_O_any_2 : ∀ (x : List Dx.D), (∀ (ds : List Dx.D), x = [Dx.D.lst ds] → False) → Dx.O.any x = Option.none := @Dx.O.any.eq_2
@[simp] theorem q_O_sum_1 : ∀ (ds : List Dx.D), Dx.O.sum [Dx.D.lst ds] = Option.map (fun (ns : List Int) ↦ Dx.W.t (Dx.D.int (List.sum ns))) (Dx.intsOf ds) := @Dx.O.sum.eq_1
@[simp] theorem q_O_sum_2 : ∀ (x : List Dx.D), (∀ (ds : List Dx.D), x = [Dx.D.lst ds] → False) → Dx.O.sum x = Option.none := @Dx.O.sum.eq_2
@[simp] theorem q_O_isa_1 : ∀ (d : Dx.D) (n : String),
  Dx.O.isa [d, Dx.D.ty n] =
    match Dx.D.tyc d, Dx.tyOf n with
    | Option.some s, Option.some t => Dx.wb (Dx.isaB s t)
    | x, x_1 => Option.none := @Dx.O.isa.eq_1
@[simp] theorem q_O_isa_2 : ∀ (d : Dx.D) (ts : List Dx.D),
  Dx.O.isa [d, Dx.D.tup ts] =
    match Dx.D.tyc d, Dx.tysOf ts with
    | Option.some s, Option.some ts => Dx.wb (List.any ts (Dx.isaB s))
    | x, x_1 => Option.none := @Dx.O.isa.eq_2
@[simp] theorem q_O_isa_3 : ∀ (x : List Dx.D), (∀ (d : Dx.D) (n : String), x = [d, Dx.D.ty n] → False) → (∀ (d : Dx.D) (ts : List Dx.D), x = [d, Dx.D.tup ts] → False) → Dx.O.isa x = Option.none := @Dx.O.isa.eq_3
@[simp] theorem q_O_int_1 : ∀ (i : Int), Dx.O.int [Dx.D.int i] = Dx.wi i := @Dx.O.int.eq_1
@[simp] theorem q_O_int_2 : ∀ (b : Bool), Dx.O.int [Dx.D.bl b] = Dx.wi (if b = Bool.true then 1 else 0) := @Dx.O.int.eq_2
@[simp] theorem q_O_int_3 : ∀ (s : PySem.Str), Dx.O.int [Dx.D.str s] = if PySem.Str.length s ≤ 640 then Option.map (fun (n : Int) ↦ Dx.W.t (Dx.D.int n)) (PySem.intText? s) else Option.none := @Dx.O.int.eq_3
@[simp] theorem q_O_int_4 : ∀ (x : List Dx.D), (∀ (i : Int), x = [Dx.D.int i] → False) → (∀ (b : Bool), x = [Dx.D.bl b] → False) → (∀ (s : PySem.Str), x = [Dx.D.str s] → False) → Dx.O.int x = Option.none := @Dx.O.int.eq_4
@[simp] theorem q_O_repr_1 : ∀ (d : Dx.D), Dx.O.repr [d] = if Dx.D.plainE d = Bool.true ∧ Dx.O.shownOk (Dx.D.py d) = Bool.true then Dx.ws (PySem.PyData.shown (Dx.D.py d)) else Option.none := @Dx.O.repr.eq_1
@[simp] theorem q_O_repr_2 : ∀ (x : List Dx.D), (∀ (d : Dx.D), x = [d] → False) → Dx.O.repr x = Option.none := @Dx.O.repr.eq_2
@[simp] theorem q_O_list_1 : ∀ (ds : List Dx.D), Dx.O.list [Dx.D.lst ds] = Option.some (Dx.W.f ds) := @Dx.O.list.eq_1
@[simp] theorem q_O_list_2 : ∀ (ds : List Dx.D), Dx.O.list [Dx.D.tup ds] = Option.some (Dx.W.f ds) := @Dx.O.list.eq_2
@[simp] theorem q_O_list_3 : ∀ (ds : List Dx.D), Dx.O.list [Dx.D.scr ds] = Option.some (Dx.W.f ds) := @Dx.O.list.eq_3
@[simp] theorem q_O_list_4 : ∀ (z : PySem.Str), Dx.O.list [Dx.D.str z] = if PySem.Str.length z ≤ 1000000 then Option.some (Dx.W.f (List.map (fun (c : Nat) ↦ Dx.D.str { cps := #[c] }) (Array.toList (PySem.Str.cps z)))) else Option.none := @Dx.O.list.eq_4
@[simp] theorem q_O_list_5 : ∀ (x : List Dx.D), (∀ (ds : List Dx.D), x = [Dx.D.lst ds] → False) → (∀ (ds : List Dx.D), x = [Dx.D.tup ds] → False) → (∀ (ds : List Dx.D), x = [Dx.D.scr ds] → False) → (∀ (z : PySem.Str), x = [Dx.D.str z] → False) → Dx.O.list x = Option.none := @Dx.O.list.eq_5
@[simp] theorem q_O_tuple_1 : ∀ (ds : List Dx.D), Dx.O.tuple [Dx.D.lst ds] = Option.some (Dx.W.t (Dx.D.tup ds)) := @Dx.O.tuple.eq_1
@[simp] theorem q_O_tuple_2 : ∀ (ds : List Dx.D), Dx.O.tuple [Dx.D.scr ds] = Option.some (Dx.W.t (Dx.D.tup ds)) := @Dx.O.tuple.eq_2
@[simp] theorem q_O_tuple_3 : ∀ (ds : List Dx.D), Dx.O.tuple [Dx.D.tup ds] = Option.some (Dx.W.t (Dx.D.tup ds)) := @Dx.O.tuple.eq_3
@[simp] theorem q_O_tuple_4 : ∀ (x : List Dx.D), (∀ (ds : List Dx.D), x = [Dx.D.lst ds] → False) → (∀ (ds : List Dx.D), x = [Dx.D.scr ds] → False) → (∀ (ds : List Dx.D), x = [Dx.D.tup ds] → False) → Dx.O.tuple x = Option.none := @Dx.O.tuple.eq_4
@[simp] theorem q_O_swapcase_1 : ∀ (x : List Dx.D) (z : PySem.Str), Dx.O.swapcase (Dx.D.str z) x = if PySem.Str.length z ≤ 5592405 then Dx.ws (PySem.Txt.swapcase z) else Option.none := @Dx.O.swapcase.eq_1
@[simp] theorem q_O_swapcase_2 : ∀ (x : Dx.D) (x_1 : List Dx.D), (∀ (z : PySem.Str), x = Dx.D.str z → False) → Dx.O.swapcase x x_1 = Option.none := @Dx.O.swapcase.eq_2
@[simp] theorem q_O_upper_1 : ∀ (x : List Dx.D) (z : PySem.Str), Dx.O.upper (Dx.D.str z) x = if PySem.Str.length z ≤ 5592405 then Dx.ws (PySem.Txt.upper z) else Option.none := @Dx.O.upper.eq_1
@[simp] theorem q_O_upper_2 : ∀ (x : Dx.D) (x_1 : List Dx.D), (∀ (z : PySem.Str), x = Dx.D.str z → False) → Dx.O.upper x x_1 = Option.none := @Dx.O.upper.eq_2
@[simp] theorem q_O_lower_1 : ∀ (x : List Dx.D) (z : PySem.Str), Dx.O.lower (Dx.D.str z) x = if PySem.Str.length z ≤ 5592405 then Dx.ws (PySem.Txt.lower z) else Option.none := @Dx.O.lower.eq_1
@[simp] theorem q_O_lower_2 : ∀ (x : Dx.D) (x_1 : List Dx.D), (∀ (z : PySem.Str), x = Dx.D.str z → False) → Dx.O.lower x x_1 = Option.none := @Dx.O.lower.eq_2
@[simp] theorem q_O_join_1 : ∀ (z : PySem.Str) (ds : List Dx.D),
  Dx.O.join (Dx.D.str z) [Dx.D.lst ds] =
    match Dx.strsOf ds with
    | Option.some l => if List.sum (List.map (fun (x : PySem.Str) ↦ PySem.Str.length x) l) + List.length l * PySem.Str.length z ≤ 16000000 then Dx.ws (PySem.Txt.join z l) else Option.none
    | Option.none => Option.none := @Dx.O.join.eq_1
@[simp] theorem q_O_join_2 : ∀ (x : Dx.D) (x_1 : List Dx.D), (∀ (z : PySem.Str) (ds : List Dx.D), x = Dx.D.str z → x_1 = [Dx.D.lst ds] → False) → Dx.O.join x x_1 = Option.none := @Dx.O.join.eq_2
@[simp] theorem q_O_index_1 : ∀ (z y : PySem.Str),
  Dx.O.index (Dx.D.str z) [Dx.D.str y] =
    match PySem.Builtin.Str.occurrences z y 0 (PySem.Str.length z) 1 with
    | i :: tail => Dx.wi ↑i
    | [] => Option.none := @Dx.O.index.eq_1
@[simp] theorem q_O_index_2 : ∀ (x : Dx.D) (x_1 : List Dx.D), (∀ (z y : PySem.Str), x = Dx.D.str z → x_1 = [Dx.D.str y] → False) → Dx.O.index x x_1 = Option.none := @Dx.O.index.eq_2
@[simp] theorem q_O_isBl_1 : ∀ (a b : Bool), Dx.O.isBl (Dx.D.bl a) (Dx.D.bl b) = Dx.wb (Decidable.decide (a = b)) := @Dx.O.isBl.eq_1
@[simp] theorem q_O_isBl_2 : ∀ (x x_1 : Dx.D), (∀ (a b : Bool), x = Dx.D.bl a → x_1 = Dx.D.bl b → False) → Dx.O.isBl x x_1 = Option.none := @Dx.O.isBl.eq_2
@[simp] theorem q_O_notBl_1 : ∀ (a b : Bool), Dx.O.notBl (Dx.D.bl a) (Dx.D.bl b) = Dx.wb !Decidable.decide (a = b) := @Dx.O.notBl.eq_1
@[simp] theorem q_O_notBl_2 : ∀ (x x_1 : Dx.D), (∀ (a b : Bool), x = Dx.D.bl a → x_1 = Dx.D.bl b → False) → Dx.O.notBl x x_1 = Option.none := @Dx.O.notBl.eq_2
@[simp] theorem q_O_addI_1 : ∀ (a b : Int), Dx.O.addI (Dx.D.int a) (Dx.D.int b) = Dx.wi (a + b) := @Dx.O.addI.eq_1
@[simp] theorem q_O_addI_2 : ∀ (x x_1 : Dx.D), (∀ (a b : Int), x = Dx.D.int a → x_1 = Dx.D.int b → False) → Dx.O.addI x x_1 = Option.none := @Dx.O.addI.eq_2
@[simp] theorem q_E_partR_1 : ∀ (x : Dx.Env) (i : Int), Dx.E.partR (Dx.W.t (Dx.D.int i)) x = Dx.Z.ok (Option.some i) x := @Dx.E.partR.eq_1
@[simp] theorem q_E_partR_2 : ∀ (x : Dx.W) (x_1 : Dx.Env), (∀ (i : Int), x = Dx.W.t (Dx.D.int i) → False) → Dx.E.partR x x_1 = Dx.Z.bad := @Dx.E.partR.eq_2
@[simp] theorem q_E_revR_1 : ∀ (x : Dx.Env) (z : PySem.Str), Dx.E.revR (Option.some (Dx.D.str z)) x = Dx.toW (Dx.O.rev (Dx.D.str z)) x := @Dx.E.revR.eq_1
@[simp] theorem q_E_revR_2 : ∀ (x : Dx.Env) (ds : List Dx.D), Dx.E.revR (Option.some (Dx.D.lst ds)) x = Dx.Z.ok (Dx.W.f (List.reverse ds)) x := @Dx.E.revR.eq_2
@[simp] theorem q_E_revR_3 : ∀ (x : Option Dx.D) (x_1 : Dx.Env), (∀ (z : PySem.Str), x = Option.some (Dx.D.str z) → False) → (∀ (ds : List Dx.D), x = Option.some (Dx.D.lst ds) → False) → Dx.E.revR x x_1 = Dx.Z.bad := @Dx.E.revR.eq_3
@[simp] theorem q_E_m0R_1 : ∀ (f : Dx.D → List Dx.D → Option Dx.W) (x : Dx.Env) (z : PySem.Str), Dx.E.m0R f (Dx.W.t (Dx.D.str z)) x = Dx.toW (f (Dx.D.str z) []) x := @Dx.E.m0R.eq_1
@[simp] theorem q_E_m0R_2 : ∀ (f : Dx.D → List Dx.D → Option Dx.W) (x : Dx.W) (x_1 : Dx.Env), (∀ (z : PySem.Str), x = Dx.W.t (Dx.D.str z) → False) → Dx.E.m0R f x x_1 = Dx.Z.bad := @Dx.E.m0R.eq_2
@[simp] theorem q_E_m1S_1 : ∀ (f : Dx.D → List Dx.D → Option Dx.W) (z : PySem.Str) (x : Dx.Env) (d : Dx.D), Dx.E.m1S f z (Option.some d) x = Dx.toW (f (Dx.D.str z) [d]) x := @Dx.E.m1S.eq_1
@[simp] theorem q_E_m1S_2 : ∀ (f : Dx.D → List Dx.D → Option Dx.W) (z : PySem.Str) (x : Dx.Env), Dx.E.m1S f z Option.none x = Dx.Z.bad := @Dx.E.m1S.eq_2
@[simp] theorem q_E_m1R_1 : ∀ (f : Dx.D → List Dx.D → Option Dx.W) (e : Dx.EM) (x : Dx.Env) (z : PySem.Str), Dx.E.m1R f e (Dx.W.t (Dx.D.str z)) x = Dx.Z.bind (e x) fun (w2 : Dx.W) (ρ2 : Dx.Env) ↦ Dx.E.m1S f z (Dx.pk (Dx.W.st w2) ρ2) ρ2 := @Dx.E.m1R.eq_1
@[simp] theorem q_E_m1R_2 : ∀ (f : Dx.D → List Dx.D → Option Dx.W) (e : Dx.EM) (x : Dx.W) (x_1 : Dx.Env), (∀ (z : PySem.Str), x = Dx.W.t (Dx.D.str z) → False) → Dx.E.m1R f e x x_1 = Dx.Z.bad := @Dx.E.m1R.eq_2
@[simp] theorem q_I_enR_1 : ∀ (x : Dx.Env) (zs : List Dx.D), Dx.I.enR [Dx.D.lst zs] x = Dx.Z.ok (Dx.I.enD zs) x := @Dx.I.enR.eq_1
@[simp] theorem q_I_enR_2 : ∀ (x : Dx.Env) (zs : List Dx.D), Dx.I.enR [Dx.D.tup zs] x = Dx.Z.ok (Dx.I.enD zs) x := @Dx.I.enR.eq_2
@[simp] theorem q_I_enR_3 : ∀ (x : Dx.Env) (zs : List Dx.D), Dx.I.enR [Dx.D.scr zs] x = Dx.Z.ok (Dx.I.enD zs) x := @Dx.I.enR.eq_3
@[simp] theorem q_I_enR_4 : ∀ (x : List Dx.D) (x_1 : Dx.Env), (∀ (zs : List Dx.D), x = [Dx.D.lst zs] → False) → (∀ (zs : List Dx.D), x = [Dx.D.tup zs] → False) → (∀ (zs : List Dx.D), x = [Dx.D.scr zs] → False) → Dx.I.enR x x_1 = Dx.Z.bad := @Dx.I.enR.eq_4
@[simp] theorem q_I_ziR_1 : ∀ (x : Dx.Env) (xs ys : List Dx.D), Dx.I.ziR [Dx.D.lst xs, Dx.D.lst ys] x = Dx.Z.ok (Dx.I.ziD xs ys) x := @Dx.I.ziR.eq_1
@[simp] theorem q_I_ziR_2 : ∀ (x : List Dx.D) (x_1 : Dx.Env), (∀ (xs ys : List Dx.D), x = [Dx.D.lst xs, Dx.D.lst ys] → False) → Dx.I.ziR x x_1 = Dx.Z.bad := @Dx.I.ziR.eq_2
@[simp] theorem q_I_r1R_1 : ∀ (x : Dx.Env) (j : Int), Dx.I.r1R [Dx.D.int j] x = if -2 ^ 62 ≤ j ∧ j < 2 ^ 62 then Dx.Z.ok (Dx.I.upD 0 (Int.toNat j)) x else Dx.Z.bad := @Dx.I.r1R.eq_1
@[simp] theorem q_I_r1R_2 : ∀ (x : List Dx.D) (x_1 : Dx.Env), (∀ (j : Int), x = [Dx.D.int j] → False) → Dx.I.r1R x x_1 = Dx.Z.bad := @Dx.I.r1R.eq_2
@[simp] theorem q_I_r2R_1 : ∀ (x : Dx.Env) (i j : Int), Dx.I.r2R [Dx.D.int i, Dx.D.int j] x = if -2 ^ 62 ≤ i ∧ i < 2 ^ 62 ∧ -2 ^ 62 ≤ j ∧ j < 2 ^ 62 then Dx.Z.ok (Dx.I.upD i (Int.toNat (j - i))) x else Dx.Z.bad := @Dx.I.r2R.eq_1
@[simp] theorem q_I_r2R_2 : ∀ (x : List Dx.D) (x_1 : Dx.Env), (∀ (i j : Int), x = [Dx.D.int i, Dx.D.int j] → False) → Dx.I.r2R x x_1 = Dx.Z.bad := @Dx.I.r2R.eq_2
@[simp] theorem q_I_r3R_1 : ∀ (x : Dx.Env) (i j : Int), Dx.I.r3R [Dx.D.int i, Dx.D.int j, Dx.D.int (-1)] x = if -2 ^ 62 ≤ i ∧ i < 2 ^ 62 ∧ -2 ^ 62 ≤ j ∧ j < 2 ^ 62 then Dx.Z.ok (Dx.I.dnD i (Int.toNat (i - j))) x else Dx.Z.bad := @Dx.I.r3R.eq_1
@[simp] theorem q_I_r3R_2 : ∀ (x : List Dx.D) (x_1 : Dx.Env), (∀ (i j : Int), x = [Dx.D.int i, Dx.D.int j, Dx.D.int (-1)] → False) → Dx.I.r3R x x_1 = Dx.Z.bad := @Dx.I.r3R.eq_2
@[simp] theorem q_parR_1 : ∀ (i j : Nat) (x : Dx.Env) (d e : Dx.D), Dx.parR i j [d, e] x = Dx.Z.ok Dx.Sig.nx (List.set (List.set x i (Dx.Slot.tr d)) j (Dx.Slot.tr e)) := @Dx.parR.eq_1
@[simp] theorem q_parR_2 : ∀ (i j : Nat) (x : List Dx.D) (x_1 : Dx.Env), (∀ (d e : Dx.D), x = [d, e] → False) → Dx.parR i j x x_1 = Dx.Z.bad := @Dx.parR.eq_2
@[simp] theorem q_G_star_1 : ∀ (n i : Nat) (gs : Dx.GMs) (x : Dx.Env) (ds : List Dx.D), Dx.G.star n i gs (Dx.D.tup ds) x = if n ≤ List.length ds + 1 then gs (List.take i ds ++ [Dx.D.lst (List.take (List.length ds + 1 - n) (List.drop i ds))] ++ List.drop (List.length ds + 1 - n) (List.drop i ds)) x else Option.none := @Dx.G.star.eq_1
@[simp] theorem q_G_star_2 : ∀ (n i : Nat) (gs : Dx.GMs) (x : Dx.Env) (ds : List Dx.D), Dx.G.star n i gs (Dx.D.lst ds) x = if n ≤ List.length ds + 1 then gs (List.take i ds ++ [Dx.D.lst (List.take (List.length ds + 1 - n) (List.drop i ds))] ++ List.drop (List.length ds + 1 - n) (List.drop i ds)) x else Option.none := @Dx.G.star.eq_2
@[simp] theorem q_G_star_3 : ∀ (n i : Nat) (gs : Dx.GMs) (x : Dx.D) (x_1 : Dx.Env), (∀ (ds : List Dx.D), x = Dx.D.tup ds → False) → (∀ (ds : List Dx.D), x = Dx.D.lst ds → False) → Dx.G.star n i gs x x_1 = Option.none := @Dx.G.star.eq_3
@[simp] theorem q_E_caF_1 : ∀ (m : List Dx.D → List Dx.D → Dx.Fr) (x : Dx.Env) (ds : List Dx.D), Dx.E.caF m (Dx.W.f ds) x = Dx.E.frW (m ds []) x := @Dx.E.caF.eq_1
@[simp] theorem q_E_caF_2 : ∀ (m : List Dx.D → List Dx.D → Dx.Fr) (x : Dx.W) (x_1 : Dx.Env), (∀ (ds : List Dx.D), x = Dx.W.f ds → False) → Dx.E.caF m x x_1 = Dx.Z.bad := @Dx.E.caF.eq_2
@[simp] theorem q_O_hdI_1 : ∀ (f : Int → List Int → Int) (i : Int) (is : List Int), Dx.O.hdI f (Option.some (i :: is)) = Dx.wi (f i is) := @Dx.O.hdI.eq_1
@[simp] theorem q_O_hdI_2 : ∀ (f : Int → List Int → Int) (x : Option (List Int)), (∀ (i : Int) (is : List Int), x = Option.some (i :: is) → False) → Dx.O.hdI f x = Option.none := @Dx.O.hdI.eq_2
@[simp] theorem q_toZ_1 {α : Type} (a : α) (ρ : Env) : toZ (some a) ρ = Z.ok a ρ := rfl
@[simp] theorem q_toZ_2 {α : Type} (ρ : Env) : toZ (none : Option α) ρ = Z.bad := rfl
@[simp] theorem q_noX_1 {α : Type} (a : α) (ρ : Env) : noX (Z.ok a ρ) = Z.ok a ρ := rfl
@[simp] theorem q_noX_2 {α : Type} (c : PySem.Str) (fs : List (PySem.Str × D)) (ρ : Env) : noX (Z.ex c fs ρ : Z α) = Z.bad := rfl
@[simp] theorem q_noX_3 {α : Type} : noX (Z.bad : Z α) = Z.bad := rfl
/-! == of plain values -/
@[simp] theorem q_eq_int (a b : Int) : O.eq (.int a) (.int b) = wb (decide (a = b)) := rfl
@[simp] theorem q_eq_str (a b : PySem.Str) : O.eq (.str a) (.str b) = wb (decide (a = b)) := rfl
@[simp] theorem q_eq_bl (a b : Bool) : O.eq (.bl a) (.bl b) = wb (decide (a = b)) := rfl
@[simp] theorem q_eq_nn : O.eq .non .non = wb true := rfl
@[simp] theorem q_eq_ni (b : Int) : O.eq .non (.int b) = wb false := rfl
@[simp] theorem q_eq_in (b : Int) : O.eq (.int b) .non = wb false := rfl
@[simp] theorem q_eq_ns (b : PySem.Str) : O.eq .non (.str b) = wb false := rfl
@[simp] theorem q_eq_sn (b : PySem.Str) : O.eq (.str b) .non = wb false := rfl
@[simp] theorem q_eq_is (a : Int) (b : PySem.Str) : O.eq (.int a) (.str b) = wb false := rfl
@[simp] theorem q_eq_si (a : Int) (b : PySem.Str) : O.eq (.str b) (.int a) = wb false := rfl
@[simp] theorem q_ne_int (a b : Int) : O.ne (.int a) (.int b) = wb (!decide (a = b)) := rfl
@[simp] theorem q_ne_str (a b : PySem.Str) : O.ne (.str a) (.str b) = wb (!decide (a = b)) := rfl
@[simp] theorem q_ne_bl (a b : Bool) : O.ne (.bl a) (.bl b) = wb (!decide (a = b)) := rfl
@[simp] theorem q_ne_nn : O.ne .non .non = wb false := rfl
@[simp] theorem q_ne_ni (b : Int) : O.ne .non (.int b) = wb true := rfl
@[simp] theorem q_ne_in (b : Int) : O.ne (.int b) .non = wb true := rfl
@[simp] theorem q_ne_ns (b : PySem.Str) : O.ne .non (.str b) = wb true := rfl
@[simp] theorem q_ne_sn (b : PySem.Str) : O.ne (.str b) .non = wb true := rfl
@[simp] theorem q_truD_b (b : Bool) : E.truD (.bl b) = some b := rfl
@[simp] theorem q_truD_n : E.truD .non = some false := rfl
@[simp] theorem q_truD_i (i : Int) : E.truD (.int i) = some (i != 0) := rfl
@[simp] theorem q_truD_s (s : PySem.Str) : E.truD (.str s) = if s.length ≤ 16777216 then some ((s.length : Int) != 0) else none := rfl
@[simp] theorem q_truD_l (ds : List D) : E.truD (.lst ds) = some (!ds.isEmpty) := rfl
@[simp] theorem q_truD_t (ds : List D) : E.truD (.tup ds) = some (!ds.isEmpty) := rfl
@[simp] theorem q_anD_b (b : EM) (d : D) (x : Bool) (ρ : Env) : E.anD b d (some x) ρ = if x = true then b ρ else .ok (.t d) ρ := by cases x <;> rfl
@[simp] theorem q_orD_b (b : EM) (d : D) (x : Bool) (ρ : Env) : E.orD b d (some x) ρ = if x = true then .ok (.t d) ρ else b ρ := by cases x <;> rfl
@[simp] theorem q_eq_t0 (ds : List D) : O.eq (.tup ds) (.tup []) = wb ds.isEmpty := rfl
@[simp] theorem q_eq_l0 (ds : List D) : O.eq (.lst ds) (.lst []) = wb ds.isEmpty := rfl
@[simp] theorem q_ne_t0 (ds : List D) : O.ne (.tup ds) (.tup []) = wb (!ds.isEmpty) := rfl
@[simp] theorem q_ne_l0 (ds : List D) : O.ne (.lst ds) (.lst []) = wb (!ds.isEmpty) := rfl
end Dx

/-! short words (local): go = the readings' own steps; hp, sq = what stands at an address; same = all kept -/
local macro_rules | `(tactic| walk_at "hx len") => `(tactic| (first
  | (obtain ⟨_, rfl, _⟩ := h; rfl) | (obtain ⟨_, _, rfl, _⟩ := h; rfl) | (obtain ⟨_, _, _, rfl, _⟩ := h; rfl) | (obtain ⟨_, _, _, _, rfl, _⟩ := h; rfl)
  | (obtain ⟨_, _, _, _, _, rfl, _⟩ := h; rfl) | (obtain ⟨_, _, _, _, _, _, rfl, _⟩ := h; rfl) | (obtain ⟨_, _, _, _, _, _, _, rfl, _⟩ := h; rfl) | (obtain ⟨rfl, _⟩ := h; rfl)))
local macro_rules | `(tactic| walk_at "hx free") => `(tactic| (first
  | assumption
  | with_reducible exact Hx.f_upd (by assumption) | with_reducible exact Hx.f_u2 (by assumption) | with_reducible exact Hx.f_u3 (by assumption)
  | with_reducible exact Hx.f_u4 (by assumption) | with_reducible exact Hx.f_u5 (by assumption) | with_reducible exact Hx.f_u6 (by assumption)
  | ((with_reducible refine Hx.f_same ?_ (by assumption)); walk_at "hx same")
  | ((with_reducible refine Hx.f_new (by walk_at "hx ne") ?_); walk_at "hx free")))
local macro_rules | `(tactic| walk_at "hx ne") => `(tactic| (first
  | assumption
  | (refine Ne.symm ?_; assumption)
  | with_reducible exact Hx.n_upd (by assumption) | with_reducible exact Hx.n_u2 (by assumption) | with_reducible exact Hx.n_u3 (by assumption) | with_reducible exact Hx.n_u4 (by assumption) | with_reducible exact Hx.n_u5 (by assumption)
  | with_reducible exact (Hx.n_upd (by assumption)).symm | with_reducible exact (Hx.n_u2 (by assumption)).symm | with_reducible exact (Hx.n_u3 (by assumption)).symm | with_reducible exact (Hx.n_u4 (by assumption)).symm
  | with_reducible exact Hx.n_at (by assumption) (by assumption) | with_reducible exact (Hx.n_at (by assumption) (by assumption)).symm))
local macro_rules | `(tactic| walk_at "hx hp") => `(tactic| (first
  | assumption
  | with_reducible exact L2.upd_same
  | ((with_reducible refine Hx.u_old (by walk_at "hx free") ?_); walk_at "hx hp")
  | ((with_reducible refine Hx.u_oth (by walk_at "hx ne") ?_); walk_at "hx hp")
  | ((with_reducible refine (by assumption : L2.Same _ _) _ _ ?_); walk_at "hx hp")))
local macro_rules | `(tactic| walk_at "hx sq") => `(tactic| (first
  | assumption
  | ((with_reducible refine Hx.sq_of ?_); walk_at "hx hp")
  | ((with_reducible refine Hx.sq_old (by walk_at "hx free") ?_); walk_at "hx sq")
  | ((with_reducible refine Hx.sq_oth (by walk_at "hx ne") ?_); walk_at "hx sq")
  | ((with_reducible refine Hx.sq_same (by assumption) ?_); walk_at "hx sq")))
local macro_rules | `(tactic| walk_at "hx same") => `(tactic| (first
  | assumption
  | with_reducible exact L2.Same.refl _
  | ((with_reducible refine Hx.s_new ?_ (by walk_at "hx free")); walk_at "hx same")
  | ((with_reducible refine Hx.s_mut ?_ (by walk_at "hx free")); walk_at "hx same")))
local macro_rules | `(tactic| walk_at "hx one") => `(tactic| (first
  | with_reducible refine Hx.g_seq ?_ | with_reducible refine Hx.g_asg ?_ | with_reducible refine Hx.g_op ?_
  | ((with_reducible refine' Hx.g_var ?hxv ?_); case hxv => exact rfl)
  | with_reducible refine Hx.g_c ?_ | with_reducible refine Hx.g_name ?_ | with_reducible refine Hx.g_cons ?_ | with_reducible refine Hx.g_nil ?_
  | with_reducible refine Hx.g_call ?_ | with_reducible refine Hx.g_CB ?_ | with_reducible refine Hx.g_ret ?_ | with_reducible refine Hx.g_drop ?_
  | with_reducible refine Hx.g_ifS ?_ | with_reducible refine Hx.g_test ?_ | with_reducible refine Hx.g_tB ?_ | with_reducible refine Hx.g_exb ?_
  | with_reducible refine Hx.g_not ?_ | with_reducible refine Hx.g_and ?_ | with_reducible refine Hx.g_or ?_
  | with_reducible refine Hx.g_andV ?_ | with_reducible refine Hx.g_orV ?_ | with_reducible refine Hx.g_notV ?_
  | with_reducible refine Hx.g_addI ?_ | with_reducible refine Hx.g_rI0 ?_ | with_reducible refine Hx.g_rU ?_ | with_reducible refine Hx.g_un ?_
  | with_reducible refine Hx.g_eqI ?_ | with_reducible refine Hx.g_neI ?_ | with_reducible refine Hx.g_eqS2 ?_ | with_reducible refine Hx.g_neS2 ?_
  | with_reducible refine Hx.g_eqB ?_ | with_reducible refine Hx.g_neB ?_ | with_reducible refine Hx.g_ltI ?_
  | with_reducible refine Hx.g_tup ?_ | with_reducible refine Hx.g_lst ?_ | with_reducible refine Hx.g_callK ?_ | with_reducible refine Hx.g_chain ?_
  | with_reducible refine Hx.g_sl ?_ | with_reducible refine Hx.g_nopart ?_ | with_reducible refine Hx.g_part ?_ | with_reducible refine Hx.g_exi ?_
  | with_reducible refine Hx.g_bm ?_ | with_reducible refine Hx.g_bm0 ?_ | with_reducible refine Hx.g_m0 ?_ | with_reducible refine Hx.g_m1 ?_ | with_reducible refine Hx.g_exs ?_
  | with_reducible refine Hx.g_tyS ?_ | with_reducible refine Hx.g_fld ?_ | with_reducible refine Hx.g_meth ?_ | with_reducible refine Hx.g_for ?_ | with_reducible refine Hx.g_lc ?_
  | with_reducible refine Hx.g_yes ?_ | ((with_reducible refine' Hx.g_aug ?hxv ?_); case hxv => exact rfl) | with_reducible refine Hx.g_ipI ?_
  | with_reducible refine Hx.g_revS ?_
  | with_reducible refine Hx.g_iList ?_ | with_reducible refine Hx.g_iStr ?_ | with_reducible refine Hx.g_exstr ?_ | with_reducible refine Hx.g_iRng1 ?_
  | with_reducible refine Hx.g_max2 ?_ | with_reducible refine Hx.g_min2 ?_ | with_reducible refine Hx.g_intB ?_ | with_reducible refine Hx.g_reprB ?_
  | with_reducible refine Hx.g_reprBD ?_ | with_reducible refine Hx.g_callE ?_ | with_reducible refine Hx.g_mkO ?_ | with_reducible refine Hx.g_ini ?_ | with_reducible refine Hx.g_sfld ?_ | with_reducible refine Hx.g_xf ?_ | with_reducible refine Hx.g_clause ?_ | with_reducible refine Hx.g_clause0 ?_ | with_reducible refine Hx.g_dnew ?_ | with_reducible refine Hx.g_disp ?_ | with_reducible refine Hx.g_par ?_ | with_reducible refine Hx.g_intI ?_ | with_reducible refine Hx.g_intBU ?_ | with_reducible refine Hx.g_two ?_
  | with_reducible refine Hx.g_if ?_ | with_reducible refine Hx.g_next ?_ | with_reducible refine Hx.g_brk ?_ | with_reducible refine Hx.g_cont ?_ | with_reducible refine Hx.g_retN ?_
  | with_reducible refine Hx.g_gcons ?_ | with_reducible refine Hx.g_gnil ?_ | with_reducible refine Hx.g_gsub ?_
  | with_reducible refine L2.iteT ?_ | with_reducible refine L2.iteF ?_ | with_reducible refine Hx.g_nT ?_ | with_reducible refine Hx.g_nF ?_))
local macro_rules | `(tactic| walk_at "hx go") => `(tactic| repeat (walk_at "hx one"))
namespace Pf
open PySem PySem.Spec PyProof.Rows L2 Hx Dx
section
-- 0 value, 1 step
def ce_is_path_1 : EM :=
  (E.op2 O.inn (E.var 1) (E.k (.str "aAbBcCdD")))
def b_is_path : SM :=
  (S.ret (E.and (E.cb O.isa (A.cons (E.var 0) (A.cons (E.k (.ty "str")) A.nil))) (E.and (E.op2 O.le (E.cb O.len (A.cons (E.var 0) A.nil)) (E.k (.int 400))) (E.cb O.all (A.cons (E.lc [1] (I.of (E.var 0)) (G.name 1) T.yes ce_is_path_1) A.nil)))))
def m_is_path : List D → Dx.Fr := Dx.runP 1 b_is_path
-- 0 paths, 1 most, 2 index, 3 path
def bl_require_paths_1 : SM :=
  (S.ifs (T.not (T.val (E.call 1 m_is_path (A.cons (E.var 3) A.nil))))
    (S.raise "InvalidPaths" ["index"] (A.cons (E.var 2) A.nil))
    S.nil)
def b_require_paths : SM :=
  (S.seq (S.ifs (T.or (T.not (T.val (E.cb O.isa (A.cons (E.var 0) (A.cons (E.tup (A.cons (E.k (.ty "list")) (A.cons (E.k (.ty "tuple")) A.nil))) A.nil))))) (T.val (E.op2 O.gt (E.cb O.len (A.cons (E.var 0) A.nil)) (E.var 1))))
    (S.raise "InvalidPaths" ["index"] (A.cons (E.k .non) A.nil))
    S.nil)
    (S.fo (I.enum (A.cons (E.var 0) A.nil)) (G.tup 2 (G.cons (G.name 2) (G.cons (G.name 3) G.nil))) bl_require_paths_1))
def m_require_paths : List D → Dx.Fr := Dx.runP 2 b_require_paths
-- 0 parts, 1 kept, 2 part, 3 step
def bl_reduce_all_1 : SM :=
  (S.ifs (T.and (T.val (E.op2 O.ne (E.var 1) (E.lst A.nil))) (T.val (E.op2 O.eq (E.op2 O.ix (E.var 1) (E.op1 O.neg (E.k (.int 1)))) (E.m0 M.swapcase (E.var 3)))))
    (S.drop (E.lm LM.pop 1 A.nil))
    (S.drop (E.lm LM.append 1 (A.cons (E.var 3) A.nil))))
def bl_reduce_all_2 : SM :=
  (S.fo (I.of (E.var 2)) (G.name 3) bl_reduce_all_1)
def b_reduce_all : SM :=
  (S.seq (S.set 1 (E.lst A.nil))
    (S.seq (S.fo (I.of (E.var 0)) (G.name 2) bl_reduce_all_2)
    (S.ret (E.m1 O.join (E.k (.str "")) (E.var 1)))))
def m_reduce_all : List D → Dx.Fr := Dx.runP 3 b_reduce_all
-- 0 path, 1 result
def b_reduced_generator : SM :=
  (S.seq (S.set 1 (E.call 1 m_reduce_all (A.cons (E.lst (A.cons (E.var 0) A.nil)) A.nil)))
    (S.seq (S.ifs (T.val (E.op2 O.gt (E.cb O.len (A.cons (E.var 1) A.nil)) (E.k (.int 60))))
    (S.raise "LimitExceeded" ["limit"] (A.cons (E.k (.int 60)) A.nil))
    S.nil)
    (S.ret (E.var 1))))
def m_reduced_generator : List D → Dx.Fr := Dx.runP 1 b_reduced_generator
-- 0 generators, 1 path
def ce_reduced_generators_1 : EM :=
  (E.call 1 m_reduced_generator (A.cons (E.var 1) A.nil))
def b_reduced_generators : SM :=
  (S.seq (S.ifs (T.not (T.val (E.cb O.isa (A.cons (E.var 0) (A.cons (E.tup (A.cons (E.k (.ty "list")) (A.cons (E.k (.ty "tuple")) A.nil))) A.nil)))))
    (S.raise "InvalidPaths" ["index"] (A.cons (E.k .non) A.nil))
    S.nil)
    (S.seq (S.drop (E.call 2 m_require_paths (A.cons (E.var 0) (A.cons (E.cb O.len (A.cons (E.var 0) A.nil)) A.nil))))
    (S.seq (S.ifs (T.val (E.op2 O.gt (E.cb O.len (A.cons (E.var 0) A.nil)) (E.k (.int 16))))
    (S.raise "LimitExceeded" ["limit"] (A.cons (E.k (.int 16)) A.nil))
    S.nil)
    (S.ret (E.lc [1] (I.of (E.var 0)) (G.name 1) T.yes ce_reduced_generators_1)))))
def m_reduced_generators : List D → Dx.Fr := Dx.runP 1 b_reduced_generators
-- 0 value
def b_is_integer : SM :=
  (S.ret (E.and (E.cb O.isa (A.cons (E.var 0) (A.cons (E.k (.ty "int")) A.nil))) (E.not (E.cb O.isa (A.cons (E.var 0) (A.cons (E.k (.ty "bool")) A.nil))))))
def m_is_integer : List D → Dx.Fr := Dx.runP 0 b_is_integer
-- 0 value, 1 number, 2 generator_count, 3 word, 4 indexes, 5 index
def ce_is_line_1 : EM :=
  (E.and (E.call 1 m_is_integer (A.cons (E.var 5) A.nil)) (E.op2 O.ge (E.var 5) (E.k (.int 0))))
def b_is_line : SM :=
  (S.seq (S.ifs (T.or (T.not (T.val (E.cb O.isa (A.cons (E.var 0) (A.cons (E.k (.ty "tuple")) A.nil))))) (T.or (T.val (E.op2 O.nin (E.cb O.len (A.cons (E.var 0) A.nil)) (E.tup (A.cons (E.k (.int 2)) (A.cons (E.k (.int 3)) A.nil))))) (T.not (T.val (E.cb O.isa (A.cons (E.op2 O.ix (E.var 0) (E.k (.int 0))) (A.cons (E.k (.ty "str")) A.nil)))))))
    (S.ret (E.k (.bl false)))
    S.nil)
    (S.seq (S.asg (E.var 0) (G.star 2 1 (G.cons (G.name 3) (G.cons (G.name 4) G.nil))))
    (S.seq (S.ifs (T.not (T.val (E.cb O.all (A.cons (E.lc [5] (I.of (E.var 4)) (G.name 5) T.yes ce_is_line_1) A.nil))))
    (S.ret (E.k (.bl false)))
    S.nil)
    (S.seq (S.ifs (T.val (E.op2 O.eq (E.var 3) (E.k (.str "generator"))))
    (S.ret (E.and (E.op2 O.eq (E.cb O.len (A.cons (E.var 4) A.nil)) (E.k (.int 1))) (E.op2 O.lt (E.op2 O.ix (E.var 4) (E.k (.int 0))) (E.var 2))))
    S.nil)
    (S.seq (S.ifs (T.val (E.op2 O.eq (E.var 3) (E.k (.str "inverse"))))
    (S.ret (E.and (E.op2 O.eq (E.cb O.len (A.cons (E.var 4) A.nil)) (E.k (.int 1))) (E.op2 O.lt (E.op2 O.ix (E.var 4) (E.k (.int 0))) (E.var 1))))
    S.nil)
    (S.ret (E.and (E.op2 O.eq (E.var 3) (E.k (.str "product"))) (E.and (E.op2 O.eq (E.cb O.len (A.cons (E.var 4) A.nil)) (E.k (.int 2))) (E.op2 O.lt (E.cb O.max (A.cons (E.var 4) A.nil)) (E.var 1))))))))))
def m_is_line : List D → Dx.Fr := Dx.runP 3 b_is_line
-- 0 steps
def b_inverted : SM :=
  (S.ret (E.m0 M.swapcase (E.rev (E.var 0))))
def m_inverted : List D → Dx.Fr := Dx.runP 0 b_inverted
-- 0 paths, 1 derivation, 2 values, 3 number, 4 line, 5 word, 6 index, 7 others
def bl_line_values_1 : SM :=
  (S.seq (S.ifs (T.not (T.val (E.call 3 m_is_line (A.cons (E.var 4) (A.cons (E.var 3) (A.cons (E.cb O.len (A.cons (E.var 0) A.nil)) A.nil))))))
    (S.ret (E.k .non))
    S.nil)
    (S.seq (S.asg (E.var 4) (G.star 3 2 (G.cons (G.name 5) (G.cons (G.name 6) (G.cons (G.name 7) G.nil)))))
    (S.seq (S.ifs (T.val (E.op2 O.eq (E.var 5) (E.k (.str "generator"))))
    (S.drop (E.lm LM.append 2 (A.cons (E.op2 O.ix (E.var 0) (E.var 6)) A.nil)))
    (S.ifs (T.val (E.op2 O.eq (E.var 5) (E.k (.str "inverse"))))
    (S.drop (E.lm LM.append 2 (A.cons (E.call 1 m_inverted (A.cons (E.op2 O.ix (E.var 2) (E.var 6)) A.nil)) A.nil)))
    (S.drop (E.lm LM.append 2 (A.cons (E.call 1 m_reduce_all (A.cons (E.lst (A.cons (E.op2 O.ix (E.var 2) (E.var 6)) (A.cons (E.op2 O.ix (E.var 2) (E.op2 O.ix (E.var 7) (E.k (.int 0)))) A.nil))) A.nil)) A.nil)))))
    (S.ifs (T.val (E.op2 O.gt (E.cb O.len (A.cons (E.op2 O.ix (E.var 2) (E.op1 O.neg (E.k (.int 1)))) A.nil)) (E.k (.int 1000))))
    (S.ret (E.k .non))
    S.nil))))
def b_line_values : SM :=
  (S.seq (S.ifs (T.or (T.not (T.val (E.cb O.isa (A.cons (E.var 1) (A.cons (E.k (.ty "list")) A.nil))))) (T.val (E.op2 O.gt (E.cb O.len (A.cons (E.var 1) A.nil)) (E.k (.int 60000)))))
    (S.ret (E.k .non))
    S.nil)
    (S.seq (S.set 2 (E.lst A.nil))
    (S.seq (S.fo (I.enum (A.cons (E.var 1) A.nil)) (G.tup 2 (G.cons (G.name 3) (G.cons (G.name 4) G.nil))) bl_line_values_1)
    (S.ret (E.var 2)))))
def m_line_values : List D → Dx.Fr := Dx.runP 6 b_line_values
-- 0 paths, 1 path, 2 derivation, 3 values
def b_derives : SM :=
  (S.seq (S.set 3 (E.call 2 m_line_values (A.cons (E.var 0) (A.cons (E.var 2) A.nil))))
    (S.ret (E.and (E.op2 O.notN (E.var 3) (E.k .non)) (E.op2 O.eq (E.op2 O.ix (E.op2 O.add (E.lst (A.cons (E.k (.str "")) A.nil)) (E.var 3)) (E.op1 O.neg (E.k (.int 1)))) (E.var 1)))))
def m_derives : List D → Dx.Fr := Dx.runP 1 b_derives
-- 0 value
def b_require_path : SM :=
  (S.ifs (T.not (T.val (E.call 1 m_is_path (A.cons (E.var 0) A.nil))))
    (S.raise "InvalidPath" ["value"] (A.cons (E.var 0) A.nil))
    S.nil)
def m_require_path : List D → Dx.Fr := Dx.runP 0 b_require_path
-- 0 path
def b_reduced : SM :=
  (S.seq (S.drop (E.call 1 m_require_path (A.cons (E.var 0) A.nil)))
    (S.ret (E.call 1 m_reduce_all (A.cons (E.lst (A.cons (E.var 0) A.nil)) A.nil))))
def m_reduced : List D → Dx.Fr := Dx.runP 0 b_reduced
-- 0 generators, 1 path, 2 derivation, 3 paths
def b_check_derivation : SM :=
  (S.seq (S.set 3 (E.call 1 m_reduced_generators (A.cons (E.var 0) A.nil)))
    (S.ret (E.call 3 m_derives (A.cons (E.var 3) (A.cons (E.call 1 m_reduced (A.cons (E.var 1) A.nil)) (A.cons (E.var 2) A.nil))))))
def m_check_derivation : List D → Dx.Fr := Dx.runP 1 b_check_derivation
-- 0 _law_pool_here, 1 _law_many, 2 _law_digit
def b_law_take : SM :=
  (S.seq (S.ifs (T.val (E.op2 O.gt (E.op2 O.ix (E.var 0) (E.k (.int 0))) (E.k (.int 0))))
    (S.seq (S.set 2 (E.op2 O.mod (E.op2 O.ix (E.var 0) (E.k (.int 0))) (E.var 1)))
    (S.seq (S.seti 0 (E.k (.int 0)) (E.op2 O.fdiv (E.op2 O.ix (E.var 0) (E.k (.int 0))) (E.var 1)))
    (S.ret (E.var 2))))
    S.nil)
    (S.seq (S.seti 0 (E.k (.int 1)) (E.op2 O.mod (E.op2 O.add (E.op2 O.mul (E.op2 O.ix (E.var 0) (E.k (.int 1))) (E.k (.int 48271))) (E.k (.int 12345))) (E.k (.int 2147483647))))
    (S.ret (E.op2 O.mod (E.op2 O.fdiv (E.op2 O.mod (E.op2 O.mul (E.op2 O.ix (E.var 0) (E.k (.int 1))) (E.op2 O.ix (E.var 0) (E.k (.int 1)))) (E.k (.int 2147483629))) (E.k (.int 64))) (E.var 1)))))
def m_law_take : List D → List D → Dx.Fr := Dx.runI 1 b_law_take
-- 0 _law_pool_here, 1 _law_lines, 2 _law_number, 3 _law_paths, 4 _law_longer
def bl_law_limits_right_1 : SM :=
  (S.drop (E.lm LM.append 1 (A.cons (E.tup (A.cons (E.k (.str "product")) (A.cons (E.var 2) (A.cons (E.var 2) A.nil)))) A.nil)))
def b_law_limits_right : SM :=
  (S.seq (S.set 1 (E.lst (A.cons (E.tup (A.cons (E.k (.str "generator")) (A.cons (E.k (.int 0)) A.nil))) A.nil)))
    (S.seq (S.fo (I.rng1 (A.cons (E.k (.int 4)) A.nil)) (G.name 2) bl_law_limits_right_1)
    (S.seq (S.set 1 (E.op2 O.add (E.var 1) (E.lst (A.cons (E.tup (A.cons (E.k (.str "product")) (A.cons (E.k (.int 4)) (A.cons (E.k (.int 2)) A.nil)))) (A.cons (E.tup (A.cons (E.k (.str "inverse")) (A.cons (E.k (.int 4)) A.nil))) (A.cons (E.tup (A.cons (E.k (.str "product")) (A.cons (E.k (.int 6)) (A.cons (E.k (.int 5)) A.nil)))) A.nil))))))
    (S.seq (S.set 3 (E.lst (A.cons (E.op2 O.mul (E.k (.str "ab")) (E.k (.int 25))) (A.cons (E.k (.str "a")) A.nil))))
    (S.seq (S.ifs (T.val (E.op2 O.notBl (E.call 3 m_check_derivation (A.cons (E.var 3) (A.cons (E.op2 O.mul (E.k (.str "ab")) (E.k (.int 100))) (A.cons (E.var 1) A.nil)))) (E.k (.bl true))))
    (S.ret (E.k (.bl false)))
    S.nil)
    (S.seq (S.set 4 (E.lst (A.cons (E.tup (A.cons (E.k (.str "generator")) (A.cons (E.k (.int 1)) A.nil))) (A.cons (E.tup (A.cons (E.k (.str "product")) (A.cons (E.k (.int 5)) (A.cons (E.k (.int 8)) A.nil)))) (A.cons (E.tup (A.cons (E.k (.str "inverse")) (A.cons (E.k (.int 8)) A.nil))) (A.cons (E.tup (A.cons (E.k (.str "product")) (A.cons (E.k (.int 9)) (A.cons (E.k (.int 10)) A.nil)))) (A.cons (E.tup (A.cons (E.k (.str "product")) (A.cons (E.k (.int 6)) (A.cons (E.k (.int 11)) A.nil)))) A.nil)))))))
    (S.seq (S.ifs (T.val (E.op2 O.notBl (E.call 3 m_check_derivation (A.cons (E.var 3) (A.cons (E.op2 O.mul (E.k (.str "ab")) (E.k (.int 100))) (A.cons (E.op2 O.add (E.var 1) (E.var 4)) A.nil)))) (E.k (.bl false))))
    (S.ret (E.k (.bl false)))
    S.nil)
    (S.seq (S.ifs (T.val (E.op2 O.gt (E.callI 1 m_law_take 0 (A.cons (E.k (.int 4)) A.nil)) (E.k (.int 0))))
    (S.ret (E.k (.bl true)))
    S.nil)
    (S.seq (S.set 1 (E.op2 O.mul (E.lst (A.cons (E.tup (A.cons (E.k (.str "generator")) (A.cons (E.k (.int 0)) A.nil))) A.nil)) (E.k (.int 60000))))
    (S.ret (E.and (E.op2 O.isBl (E.call 3 m_check_derivation (A.cons (E.lst (A.cons (E.k (.str "")) A.nil)) (A.cons (E.k (.str "")) (A.cons (E.var 1) A.nil)))) (E.k (.bl true))) (E.op2 O.isBl (E.call 3 m_check_derivation (A.cons (E.lst (A.cons (E.k (.str "")) A.nil)) (A.cons (E.k (.str "")) (A.cons (E.op2 O.add (E.var 1) (E.sl (E.var 1) E.noP (E.part (E.k (.int 1))))) A.nil)))) (E.k (.bl false))))))))))))))
def m_law_limits_right : List D → List D → Dx.Fr := Dx.runI 4 b_law_limits_right
-- 0 _law_script, 1 _law_k, 2 _law_cell, 3 _law_number, 4 _law_mixed
def b_law_pool : SM :=
  (S.seq (S.set 2 (E.op2 O.ix (E.op2 O.add (E.sl (E.var 0) (E.part (E.var 1)) (E.part (E.op2 O.add (E.var 1) (E.k (.int 1))))) (E.lst (A.cons (E.k (.int 0)) A.nil))) (E.k (.int 0))))
    (S.seq (S.set 3 (E.cb O.max (A.cons (E.var 2) (A.cons (E.op2 O.sub (E.op1 O.neg (E.k (.int 1))) (E.var 2)) A.nil))))
    (S.seq (S.set 4 (E.op2 O.mod (E.op2 O.mul (E.op2 O.add (E.op2 O.add (E.op2 O.add (E.op2 O.mod (E.var 3) (E.k (.int 2147483629))) (E.op2 O.mul (E.op2 O.mul (E.k (.int 7919)) (E.var 1)) (E.var 1))) (E.op2 O.mul (E.k (.int 31)) (E.var 1))) (E.k (.int 17))) (E.k (.int 48271))) (E.k (.int 2147483647))))
    (S.ret (E.lst (A.cons (E.op2 O.mul (E.var 3) (E.cb O.int (A.cons (E.op2 O.ge (E.var 3) (E.op2 O.pow (E.k (.int 10)) (E.k (.int 18)))) A.nil))) (A.cons (E.op2 O.mod (E.op2 O.mul (E.var 4) (E.var 4)) (E.k (.int 2147483629))) A.nil)))))))
def m_law_pool : List D → Dx.Fr := Dx.runP 3 b_law_pool
-- 0 _law_pool_here, 1 _law_most, 2 _law_letters, 3 _law_turn
def ce_law_path_1 : EM :=
  (E.op2 O.ix (E.k (.str "aAbBcCdD")) (E.callI 1 m_law_take 0 (A.cons (E.op2 O.mul (E.k (.int 2)) (E.var 2)) A.nil)))
def b_law_path : SM :=
  (S.ret (E.m1 O.join (E.k (.str "")) (E.lc [3] (I.rng1 (A.cons (E.callI 1 m_law_take 0 (A.cons (E.op2 O.add (E.var 1) (E.k (.int 1))) A.nil)) A.nil)) (G.name 3) T.yes ce_law_path_1)))
def m_law_path : List D → List D → Dx.Fr := Dx.runI 1 b_law_path
-- 0 _law_pool_here, 1 _law_many, 2 _law_most, 3 _law_letters, 4 _law_turn
def ce_law_generators_1 : EM :=
  (E.callI 2 m_law_path 0 (A.cons (E.var 2) (A.cons (E.var 3) A.nil)))
def b_law_generators : SM :=
  (S.ret (E.lc [4] (I.rng1 (A.cons (E.callI 1 m_law_take 0 (A.cons (E.op2 O.add (E.var 1) (E.k (.int 1))) A.nil)) A.nil)) (G.name 4) T.yes ce_law_generators_1))
def m_law_generators : List D → List D → Dx.Fr := Dx.runI 1 b_law_generators
-- 0 _law_pool_here, 1 _law_many, 2 _law_found, 3 _law_number, 4 _law_way
def bl_law_drawn_1 : SM :=
  (S.seq (S.set 4 (E.callI 1 m_law_take 0 (A.cons (E.k (.int 4)) A.nil)))
    (S.ifs (T.and (T.val (E.op2 O.gt (E.var 1) (E.k (.int 0)))) (T.or (T.val (E.op2 O.lt (E.var 4) (E.k (.int 2)))) (T.val (E.op2 O.eq (E.var 2) (E.lst A.nil)))))
    (S.drop (E.lm LM.append 2 (A.cons (E.tup (A.cons (E.k (.str "generator")) (A.cons (E.callI 1 m_law_take 0 (A.cons (E.var 1) A.nil)) A.nil))) A.nil)))
    (S.ifs (T.and (T.val (E.op2 O.eq (E.var 4) (E.k (.int 2)))) (T.val (E.op2 O.ne (E.var 2) (E.lst A.nil))))
    (S.drop (E.lm LM.append 2 (A.cons (E.tup (A.cons (E.k (.str "inverse")) (A.cons (E.callI 1 m_law_take 0 (A.cons (E.var 3) A.nil)) A.nil))) A.nil)))
    (S.ifs (T.val (E.op2 O.ne (E.var 2) (E.lst A.nil)))
    (S.drop (E.lm LM.append 2 (A.cons (E.tup (A.cons (E.k (.str "product")) (A.cons (E.callI 1 m_law_take 0 (A.cons (E.var 3) A.nil)) (A.cons (E.callI 1 m_law_take 0 (A.cons (E.var 3) A.nil)) A.nil)))) A.nil)))
    S.nil))))
def b_law_drawn : SM :=
  (S.seq (S.set 2 (E.lst A.nil))
    (S.seq (S.fo (I.rng1 (A.cons (E.callI 1 m_law_take 0 (A.cons (E.k (.int 15)) A.nil)) A.nil)) (G.name 3) bl_law_drawn_1)
    (S.ret (E.var 2))))
def m_law_drawn : List D → List D → Dx.Fr := Dx.runI 3 b_law_drawn
-- 0 _law_thing, 1 _law_most
def b_law_is_number : SM :=
  (S.ret (E.and (E.cb O.isa (A.cons (E.var 0) (A.cons (E.k (.ty "int")) A.nil))) (E.and (E.not (E.cb O.isa (A.cons (E.var 0) (A.cons (E.k (.ty "bool")) A.nil)))) (E.chain O.le O.lt (E.k (.int 0)) (E.var 0) (E.var 1)))))
def m_law_is_number : List D → Dx.Fr := Dx.runP 0 b_law_is_number
-- 0 _law_line, 1 _law_number, 2 _law_many
def b_law_is_line : SM :=
  (S.seq (S.ifs (T.or (T.not (T.val (E.cb O.isa (A.cons (E.var 0) (A.cons (E.k (.ty "tuple")) A.nil))))) (T.or (T.val (E.op2 O.eq (E.var 0) (E.tup A.nil))) (T.not (T.val (E.cb O.isa (A.cons (E.op2 O.ix (E.var 0) (E.k (.int 0))) (A.cons (E.k (.ty "str")) A.nil)))))))
    (S.ret (E.k (.bl false)))
    S.nil)
    (S.seq (S.ifs (T.val (E.op2 O.eq (E.op2 O.ix (E.var 0) (E.k (.int 0))) (E.k (.str "generator"))))
    (S.ret (E.and (E.op2 O.eq (E.cb O.len (A.cons (E.var 0) A.nil)) (E.k (.int 2))) (E.call 2 m_law_is_number (A.cons (E.op2 O.ix (E.var 0) (E.k (.int 1))) (A.cons (E.var 2) A.nil)))))
    S.nil)
    (S.seq (S.ifs (T.val (E.op2 O.eq (E.op2 O.ix (E.var 0) (E.k (.int 0))) (E.k (.str "inverse"))))
    (S.ret (E.and (E.op2 O.eq (E.cb O.len (A.cons (E.var 0) A.nil)) (E.k (.int 2))) (E.call 2 m_law_is_number (A.cons (E.op2 O.ix (E.var 0) (E.k (.int 1))) (A.cons (E.var 1) A.nil)))))
    S.nil)
    (S.seq (S.ifs (T.or (T.val (E.op2 O.ne (E.op2 O.ix (E.var 0) (E.k (.int 0))) (E.k (.str "product")))) (T.val (E.op2 O.ne (E.cb O.len (A.cons (E.var 0) A.nil)) (E.k (.int 3)))))
    (S.ret (E.k (.bl false)))
    S.nil)
    (S.ret (E.and (E.call 2 m_law_is_number (A.cons (E.op2 O.ix (E.var 0) (E.k (.int 1))) (A.cons (E.var 1) A.nil))) (E.call 2 m_law_is_number (A.cons (E.op2 O.ix (E.var 0) (E.k (.int 2))) (A.cons (E.var 1) A.nil)))))))))
def m_law_is_line : List D → Dx.Fr := Dx.runP 0 b_law_is_line
-- 0 _law_step
def b_law_inverse_step : SM :=
  (S.ret (E.op2 O.ix (E.k (.str "aAbBcCdD")) (E.op2 O.xor (E.m1 O.index (E.k (.str "aAbBcCdD")) (E.var 0)) (E.k (.int 1)))))
def m_law_inverse_step : List D → Dx.Fr := Dx.runP 0 b_law_inverse_step
-- 0 _law_path_here, 1 _law_found, 2 _law_step
def bl_law_reduced_1 : SM :=
  (S.ifs (T.and (T.val (E.op2 O.ne (E.var 1) (E.k (.str "")))) (T.val (E.op2 O.eq (E.op2 O.ix (E.var 1) (E.op1 O.neg (E.k (.int 1)))) (E.call 1 m_law_inverse_step (A.cons (E.var 2) A.nil)))))
    (S.set 1 (E.sl (E.var 1) E.noP (E.part (E.op1 O.neg (E.k (.int 1))))))
    (S.set 1 (E.op2 O.add (E.var 1) (E.var 2))))
def b_law_reduced : SM :=
  (S.seq (S.set 1 (E.k (.str "")))
    (S.seq (S.fo (I.of (E.var 0)) (G.name 2) bl_law_reduced_1)
    (S.ret (E.var 1))))
def m_law_reduced : List D → Dx.Fr := Dx.runP 2 b_law_reduced
-- 0 _law_path_here, 1 _law_step
def ce_law_inverse_1 : EM :=
  (E.call 1 m_law_inverse_step (A.cons (E.var 1) A.nil))
def b_law_inverse : SM :=
  (S.ret (E.m1 O.join (E.k (.str "")) (E.lc [1] (I.of (E.rev (E.var 0))) (G.name 1) T.yes ce_law_inverse_1)))
def m_law_inverse : List D → Dx.Fr := Dx.runP 1 b_law_inverse
-- 0 _law_paths, 1 _law_derivation, 2 _law_found, 3 _law_number, 4 _law_line
def bl_law_value_1 : SM :=
  (S.seq (S.ifs (T.not (T.val (E.call 3 m_law_is_line (A.cons (E.var 4) (A.cons (E.var 3) (A.cons (E.cb O.len (A.cons (E.var 0) A.nil)) A.nil))))))
    (S.ret (E.k .non))
    S.nil)
    (S.seq (S.ifs (T.val (E.op2 O.eq (E.op2 O.ix (E.var 4) (E.k (.int 0))) (E.k (.str "generator"))))
    (S.drop (E.lm LM.append 2 (A.cons (E.call 1 m_law_reduced (A.cons (E.op2 O.ix (E.var 0) (E.op2 O.ix (E.var 4) (E.k (.int 1)))) A.nil)) A.nil)))
    (S.ifs (T.val (E.op2 O.eq (E.op2 O.ix (E.var 4) (E.k (.int 0))) (E.k (.str "inverse"))))
    (S.drop (E.lm LM.append 2 (A.cons (E.call 1 m_law_inverse (A.cons (E.op2 O.ix (E.var 2) (E.op2 O.add (E.op2 O.ix (E.var 4) (E.k (.int 1))) (E.k (.int 1)))) A.nil)) A.nil)))
    (S.drop (E.lm LM.append 2 (A.cons (E.call 1 m_law_reduced (A.cons (E.op2 O.add (E.op2 O.ix (E.var 2) (E.op2 O.add (E.op2 O.ix (E.var 4) (E.k (.int 1))) (E.k (.int 1)))) (E.op2 O.ix (E.var 2) (E.op2 O.add (E.op2 O.ix (E.var 4) (E.k (.int 2))) (E.k (.int 1))))) A.nil)) A.nil)))))
    (S.ifs (T.val (E.op2 O.gt (E.cb O.len (A.cons (E.op2 O.ix (E.var 2) (E.op1 O.neg (E.k (.int 1)))) A.nil)) (E.k (.int 1000))))
    (S.ret (E.k .non))
    S.nil)))
def b_law_value : SM :=
  (S.seq (S.ifs (T.not (T.val (E.cb O.isa (A.cons (E.var 1) (A.cons (E.k (.ty "list")) A.nil)))))
    (S.ret (E.k .non))
    S.nil)
    (S.seq (S.set 2 (E.lst (A.cons (E.k (.str "")) A.nil)))
    (S.seq (S.fo (I.enum (A.cons (E.var 1) A.nil)) (G.tup 2 (G.cons (G.name 3) (G.cons (G.name 4) G.nil))) bl_law_value_1)
    (S.ret (E.op2 O.ix (E.var 2) (E.op1 O.neg (E.k (.int 1))))))))
def m_law_value : List D → Dx.Fr := Dx.runP 3 b_law_value
-- 0 _law_pool_here, 1 _law_at, 2 _law_many, 3 _law_far, 4 _law_some
def b_law_odd : SM :=
  (S.seq (S.set 3 (E.op2 O.ix (E.lst (A.cons (E.op1 O.neg (E.k (.int 1))) (A.cons (E.var 2) (A.cons (E.var 1) (A.cons (E.op2 O.add (E.var 1) (E.k (.int 1))) (A.cons (E.k (.bl true)) (A.cons (E.k .non) (A.cons (E.k (.str "0")) (A.cons (E.op2 O.pow (E.k (.int 10)) (E.k (.int 20))) (A.cons (E.tup (A.cons (E.k (.int 0)) A.nil)) (A.cons (E.lst (A.cons (E.k (.int 0)) A.nil)) A.nil))))))))))) (E.callI 1 m_law_take 0 (A.cons (E.k (.int 10)) A.nil))))
    (S.seq (S.set 4 (E.lst (A.cons (E.tup (A.cons (E.k (.str "generator")) (A.cons (E.var 3) A.nil))) (A.cons (E.tup (A.cons (E.k (.str "inverse")) (A.cons (E.var 3) A.nil))) (A.cons (E.tup (A.cons (E.k (.str "product")) (A.cons (E.var 3) (A.cons (E.k (.int 0)) A.nil)))) (A.cons (E.tup (A.cons (E.k (.str "product")) (A.cons (E.k (.int 0)) (A.cons (E.var 3) A.nil)))) (A.cons (E.tup (A.cons (E.k (.str "generator")) A.nil)) A.nil)))))))
    (S.seq (S.set 4 (E.op2 O.add (E.var 4) (E.lst (A.cons (E.tup (A.cons (E.k (.str "inverse")) (A.cons (E.k (.int 0)) (A.cons (E.k (.int 0)) A.nil)))) (A.cons (E.tup (A.cons (E.k (.str "product")) (A.cons (E.k (.int 0)) A.nil))) (A.cons (E.lst (A.cons (E.k (.str "generator")) (A.cons (E.k (.int 0)) A.nil))) (A.cons (E.k (.str "generator")) (A.cons (E.k .non) (A.cons (E.tup A.nil) (A.cons (E.tup (A.cons (E.k (.str "power")) (A.cons (E.k (.int 0)) A.nil))) A.nil))))))))))
    (S.seq (S.set 4 (E.op2 O.add (E.var 4) (E.lst (A.cons (E.tup (A.cons (E.k (.int 0)) (A.cons (E.k (.str "generator")) A.nil))) (A.cons (E.tup (A.cons (E.k (.str "generator")) (A.cons (E.k (.int 0)) (A.cons (E.k (.int 0)) A.nil)))) (A.cons (E.dnew false) (A.cons (E.k (.int 5)) (A.cons (E.tup (A.cons (E.lst (A.cons (E.k (.str "generator")) A.nil)) (A.cons (E.k (.int 0)) A.nil))) (A.cons (E.tup (A.cons (E.dnew false) (A.cons (E.k (.int 0)) A.nil))) A.nil)))))))))
    (S.ret (E.op2 O.ix (E.var 4) (E.callI 1 m_law_take 0 (A.cons (E.k (.int 18)) A.nil))))))))
def m_law_odd : List D → List D → Dx.Fr := Dx.runI 2 b_law_odd
-- 0 _law_pool_here, 1 _law_derivation, 2 _law_many, 3 _law_at, 4 _law_odd_here, 5 _law_some
def b_law_bent : SM :=
  (S.seq (S.set 3 (E.callI 1 m_law_take 0 (A.cons (E.op2 O.add (E.cb O.len (A.cons (E.var 1) A.nil)) (E.k (.int 1))) A.nil)))
    (S.seq (S.set 4 (E.callI 2 m_law_odd 0 (A.cons (E.var 3) (A.cons (E.var 2) A.nil))))
    (S.seq (S.set 5 (E.lst (A.cons (E.op2 O.add (E.op2 O.add (E.sl (E.var 1) E.noP (E.part (E.var 3))) (E.lst (A.cons (E.var 4) A.nil))) (E.sl (E.var 1) (E.part (E.var 3)) E.noP)) (A.cons (E.op2 O.add (E.op2 O.add (E.sl (E.var 1) E.noP (E.part (E.var 3))) (E.lst (A.cons (E.var 4) A.nil))) (E.sl (E.var 1) (E.part (E.op2 O.add (E.var 3) (E.k (.int 1)))) E.noP)) A.nil))))
    (S.seq (S.set 5 (E.op2 O.add (E.var 5) (E.lst (A.cons (E.op2 O.add (E.sl (E.var 1) E.noP (E.part (E.var 3))) (E.sl (E.var 1) (E.part (E.op2 O.add (E.var 3) (E.k (.int 1)))) E.noP)) A.nil))))
    (S.ret (E.op2 O.ix (E.op2 O.add (E.var 5) (E.lst (A.cons (E.rev (E.var 1)) (A.cons (E.sl (E.var 1) E.noP (E.part (E.var 3))) (A.cons (E.op2 O.add (E.var 1) (E.var 1)) A.nil))))) (E.callI 1 m_law_take 0 (A.cons (E.k (.int 6)) A.nil))))))))
def m_law_bent : List D → List D → Dx.Fr := Dx.runI 3 b_law_bent
-- 0 _law_paths, 1 _law_path_here, 2 _law_derivation, 3 _law_kept, 4 _law_value_here, 5 _law_due, 6 _law_found
def b_law_right : SM :=
  (S.seq (S.set 3 (E.cb O.repr (A.cons (E.lst (A.cons (E.var 0) (A.cons (E.var 2) A.nil))) A.nil)))
    (S.seq (S.set 4 (E.call 2 m_law_value (A.cons (E.var 0) (A.cons (E.var 2) A.nil))))
    (S.seq (S.set 5 (E.and (E.op2 O.notN (E.var 4) (E.k .non)) (E.op2 O.eq (E.var 4) (E.call 1 m_law_reduced (A.cons (E.var 1) A.nil)))))
    (S.seq (S.set 6 (E.call 3 m_check_derivation (A.cons (E.var 0) (A.cons (E.var 1) (A.cons (E.var 2) A.nil)))))
    (S.ret (E.and (E.op2 O.eq (E.cb O.repr (A.cons (E.var 6) A.nil)) (E.cb O.repr (A.cons (E.var 5) A.nil))) (E.op2 O.eq (E.cb O.repr (A.cons (E.lst (A.cons (E.var 0) (A.cons (E.var 2) A.nil))) A.nil)) (E.var 3))))))))
def m_law_right : List D → Dx.Fr := Dx.runP 4 b_law_right
-- 0 _law_script, 1 _law_k, 2 _law_pool_here, 3 _law_paths, 4 _law_derivation, 5 _law_own, 6 _law_other, 7 _law_path_here, 8 _law_bent_here, 9 _law_thing, 10 _law_turn
def ce_law_1 : EM :=
  (E.callI 2 m_law_bent 2 (A.cons (E.var 4) (A.cons (E.cb O.len (A.cons (E.var 3) A.nil)) A.nil)))
def bl_law_1 : SM :=
  (S.ifs (T.not (T.val (E.call 3 m_law_right (A.cons (E.var 3) (A.cons (E.var 7) (A.cons (E.var 9) A.nil))))))
    (S.ret (E.k (.bl false)))
    S.nil)
def bl_law_2 : SM :=
  (S.seq (S.set 8 (E.lc [10] (I.rng1 (A.cons (E.k (.int 2)) A.nil)) (G.name 10) T.yes ce_law_1))
    (S.fo (I.of (E.op2 O.add (E.lst (A.cons (E.var 4) A.nil)) (E.var 8))) (G.name 9) bl_law_1))
def bl_law_3 : SM :=
  (S.ifs (T.val (E.op2 O.notBl (E.call 3 m_check_derivation (A.cons (E.cb O.tuple (A.cons (E.var 3) A.nil)) (A.cons (E.sl (E.var 5) E.noP (E.part (E.k (.int 400)))) (A.cons (E.var 9) A.nil)))) (E.k (.bl false))))
    (S.ret (E.k (.bl false)))
    S.nil)
def bl_law_4 : SM :=
  (S.seq (S.set 2 (E.call 2 m_law_pool (A.cons (E.var 0) (A.cons (E.var 1) A.nil))))
    (S.seq (S.set 3 (E.callI 3 m_law_generators 2 (A.cons (E.k (.int 4)) (A.cons (E.k (.int 8)) (A.cons (E.op2 O.add (E.k (.int 1)) (E.callI 1 m_law_take 2 (A.cons (E.k (.int 3)) A.nil))) A.nil)))))
    (S.seq (S.set 4 (E.callI 1 m_law_drawn 2 (A.cons (E.cb O.len (A.cons (E.var 3) A.nil)) A.nil)))
    (S.seq (S.set 5 (E.or (E.call 2 m_law_value (A.cons (E.var 3) (A.cons (E.var 4) A.nil))) (E.k (.str ""))))
    (S.seq (S.set 6 (E.callI 2 m_law_path 2 (A.cons (E.k (.int 8)) (A.cons (E.k (.int 2)) A.nil))))
    (S.seq (S.fo (I.of (E.ite (T.val (E.op2 O.lt (E.cb O.len (A.cons (E.var 5) A.nil)) (E.k (.int 390)))) (E.lst (A.cons (E.var 5) (A.cons (E.op2 O.add (E.op2 O.add (E.sl (E.var 5) E.noP (E.part (E.k (.int 3)))) (E.k (.str "dD"))) (E.sl (E.var 5) (E.part (E.k (.int 3))) E.noP)) (A.cons (E.var 6) (A.cons (E.op2 O.add (E.var 5) (E.k (.str "a"))) (A.cons (E.k (.str "")) A.nil)))))) (E.lst (A.cons (E.var 6) A.nil)))) (G.name 7) bl_law_2)
    (S.fo (I.of (E.lst (A.cons (E.k .non) (A.cons (E.cb O.tuple (A.cons (E.var 4) A.nil)) (A.cons (E.k (.str "")) (A.cons (E.k (.str "generator 0")) (A.cons (E.dnew false) (A.cons (E.k (.int 0)) (A.cons (E.k (.bl true)) (A.cons (E.tup (A.cons (E.var 4) A.nil)) (A.cons (E.lst (A.cons (E.var 4) A.nil)) A.nil))))))))))) (G.name 9) bl_law_3)))))))
def b_law : SM :=
  (S.seq (S.ifs (T.not (T.val (E.callF m_law_limits_right (E.call 2 m_law_pool (A.cons (E.var 0) (A.cons (E.k (.int 0)) A.nil))))))
    (S.ret (E.k (.bl false)))
    S.nil)
    (S.seq (S.fo (I.rng1 (A.cons (E.cb O.max (A.cons (E.k (.int 1)) (A.cons (E.cb O.min (A.cons (E.k (.int 8)) (A.cons (E.cb O.len (A.cons (E.var 0) A.nil)) A.nil))) A.nil))) A.nil)) (G.name 1) bl_law_4)
    (S.ret (E.k (.bl true)))))
def m_law : List D → Dx.Fr := Dx.runP 10 b_law
end
/-- the text of a list of codes -/
def S (l : List Nat) : Str := ⟨l.toArray⟩
theorem S_cps (l : List Nat) : (S l).cps.toList = l := by simp [S]
theorem S_len (l : List Nat) : (S l).length = l.length := by simp [S, Str.length]
theorem S_inj {l m : List Nat} (h : S l = S m) : l = m := by rw [← S_cps l, h, S_cps]
theorem S_of (z : Str) : z = S z.cps.toList := by cases z; simp [S]
theorem S_app (l m : List Nat) : S l ++ S m = S (l ++ m) := by
  show Str.append (S l) (S m) = _
  simp [Str.append, S]
theorem S_nil : (Str.ofString "") = S [] := by decide +kernel
theorem S_empty : Str.empty = S [] := rfl
def sg (c : Nat) : Str := S [c]
theorem sg_S (c : Nat) : (⟨#[c]⟩ : Str) = S [c] := rfl
theorem join_S : ∀ ls : List (List Nat), Txt.join (Str.ofString "") (ls.map S) = S ls.flatten := by
  intro ls
  rw [show ∀ (y : Str) (ps : List Str), Txt.join y ps = Str.join y ps from fun y ps => PySem.StrLaws.glued_eq_join y ps]
  induction ls with
  | nil => rfl
  | cons a r ih =>
    cases r with
    | nil => simp [Str.join]
    | cons b r =>
      show S a ++ Str.ofString "" ++ Str.join (Str.ofString "") ((b :: r).map S) = _
      rw [ih, S_nil, S_app, S_app]; simp
theorem join_sg (l : List Nat) : Txt.join (Str.ofString "") (l.map sg) = S l := by
  have := join_S (l.map fun c => [c])
  rw [List.map_map] at this
  rw [show (l.map sg) = l.map (S ∘ fun c => [c]) from rfl, this]
  congr 1
  clear this
  induction l with
  | nil => rfl
  | cons c r ih => rw [List.map_cons, List.flatten_cons, ih]; rfl
/-- a for that goes through -/
theorem forR_inv {B : D → SM} : ∀ (ds : List D) (I : Nat → Dx.Env → Prop) (k : Nat) (ρ : Dx.Env), I k ρ →
    (∀ i d ρ, ds[i]? = some d → I (k + i) ρ → ∃ ρ', B d ρ = .ok .nx ρ' ∧ I (k + i + 1) ρ') → ∃ ρ', forR B ds ρ = .ok .nx ρ' ∧ I (k + ds.length) ρ'
  | [], I, k, ρ, h0, hs => ⟨ρ, rfl, h0⟩
  | d :: ds, I, k, ρ, h0, hs => by
    obtain ⟨ρ1, e1, h1⟩ := hs 0 d ρ rfl h0
    obtain ⟨ρ2, e2, h2⟩ := forR_inv ds I (k + 1) ρ1 h1 (fun i d' ρ' hd hi => by
      have := hs (i + 1) d' ρ' (by simpa using hd) (by rw [show k + (i + 1) = k + 1 + i by omega]; exact hi)
      rw [show k + (i + 1) + 1 = k + 1 + i + 1 by omega] at this
      exact this)
    refine ⟨ρ2, ?_, by rw [List.length_cons, show k + (ds.length + 1) = k + 1 + ds.length by omega]; exact h2⟩
    rw [forR, e1]
    exact e2
theorem forR_map {B : D → SM} {α β : Type} {f : α → D} {mk : β → Dx.Env} {g : β → α → β} : ∀ (xs : List α) (b : β), (∀ a ∈ xs, ∀ b, B (f a) (mk b) = .ok .nx (mk (g b a))) → forR B (xs.map f) (mk b) = .ok .nx (mk (xs.foldl g b))
  | [], _, _ => rfl
  | a :: xs, b, h => by
    rw [List.map_cons, forR, h a List.mem_cons_self b, List.foldl_cons]
    exact forR_map xs (g b a) fun a' ha b' => h a' (List.mem_cons_of_mem _ ha) b'
/-- a comprehension whose turns give h a and leave the slots -/
theorem lcR_map {vs : List Nat} {g : GM} {t : TM} {e : EM} {ρ : Dx.Env} {α : Type} {f h : α → D} : ∀ (xs : List α), (∀ a ∈ xs, lcR vs g t e [f a] ρ = .ok [h a] ρ) → lcR vs g t e (xs.map f) ρ = .ok (xs.map h) ρ
  | [], _ => rfl
  | a :: xs, hh => by
    have h1 := hh a List.mem_cons_self
    have ih := lcR_map (f := f) (h := h) xs fun a' ha => hh a' (List.mem_cons_of_mem _ ha)
    rw [List.map_cons, List.map_cons]
    rw [lcR] at h1 ⊢
    cases eg : g (f a) ρ with
    | none => rw [eg] at h1; cases h1
    | some ρ1 =>
      rw [eg] at h1
      dsimp only [onL] at h1 ⊢
      cases et : noX (t ρ1) with
      | bad => rw [et] at h1; cases h1
      | ex _ _ _ => rw [et] at h1; cases h1
      | ok b ρ2 =>
        rw [et] at h1
        dsimp only [Z.bind] at h1 ⊢
        cases b with
        | false => simp at h1
        | true =>
          rw [if_pos rfl] at h1 ⊢
          cases ee : noX (e ρ2) with
          | bad => rw [ee] at h1; cases h1
          | ex _ _ _ => rw [ee] at h1; cases h1
          | ok w ρ3 =>
            rw [ee] at h1
            dsimp only [Z.bind] at h1 ⊢
            cases ef : fz w ρ3 with
            | bad => rw [ef] at h1; cases h1
            | ex _ _ _ => rw [ef] at h1; cases h1
            | ok y ρ4 =>
              rw [ef] at h1
              simp only [Z.bind, lcR] at h1 ⊢
              injection h1 with h1 h2
              rw [h2, ih]
              simp only [Z.bind]
              rw [List.cons.inj h1 |>.1]
/-- a comprehension that carries a state -/
theorem lcR_inv {vs : List Nat} {g : GM} {t : TM} {e : EM} : ∀ (ds : List D) (I : Nat → Dx.Env → List D → Prop) (k : Nat) (ρ : Dx.Env) (ys : List D), I k ρ ys →
    (∀ i d ρ ys, ds[i]? = some d → I (k + i) ρ ys → ∃ zs ρ', lcR vs g t e [d] ρ = .ok zs ρ' ∧ I (k + i + 1) ρ' (ys ++ zs)) → ∃ zs ρ', lcR vs g t e ds ρ = .ok zs ρ' ∧ I (k + ds.length) ρ' (ys ++ zs)
  | [], I, k, ρ, ys, h0, hs => ⟨[], ρ, rfl, by simpa using h0⟩
  | d :: ds, I, k, ρ, ys, h0, hs => by
    obtain ⟨z1, ρ1, e1, h1⟩ := hs 0 d ρ ys rfl h0
    obtain ⟨z2, ρ2, e2, h2⟩ := lcR_inv ds I (k + 1) ρ1 (ys ++ z1) h1 (fun i d' ρ' ys' hd hi => by
      have := hs (i + 1) d' ρ' ys' (by simpa using hd) (by rw [show k + (i + 1) = k + 1 + i by omega]; exact hi)
      rw [show k + (i + 1) + 1 = k + 1 + i + 1 by omega] at this
      exact this)
    refine ⟨z1 ++ z2, ρ2, ?_, by rw [List.length_cons, show k + (ds.length + 1) = k + 1 + ds.length by omega, ← List.append_assoc]; exact h2⟩
    rw [lcR] at e1 ⊢
    cases eg : g d ρ with
    | none => rw [eg] at e1; cases e1
    | some ρ3 =>
      rw [eg] at e1
      dsimp only [onL] at e1 ⊢
      cases et : noX (t ρ3) with
      | bad => rw [et] at e1; cases e1
      | ex _ _ _ => rw [et] at e1; cases e1
      | ok b ρ4 =>
        rw [et] at e1
        dsimp only [Z.bind] at e1 ⊢
        cases b with
        | false => simp [lcR] at e1; obtain ⟨rfl, rfl⟩ := e1; simpa using e2
        | true =>
          rw [if_pos rfl] at e1 ⊢
          cases ee : noX (e ρ4) with
          | bad => rw [ee] at e1; cases e1
          | ex _ _ _ => rw [ee] at e1; cases e1
          | ok w ρ5 =>
            rw [ee] at e1
            dsimp only [Z.bind] at e1 ⊢
            cases ef : fz w ρ5 with
            | bad => rw [ef] at e1; cases e1
            | ex _ _ _ => rw [ef] at e1; cases e1
            | ok y ρ6 =>
              rw [ef] at e1
              simp only [Z.bind, lcR] at e1 ⊢
              injection e1 with e1 e3
              subst e1 e3
              rw [e2]
              rfl
/-- a text by its codes -/
abbrev tS (l : List Nat) : D := .str (S l)
@[simp] theorem sg_fold (c : Nat) : (⟨#[c]⟩ : Str) = S [c] := rfl
theorem items_tS (l : List Nat) : itemsOf (tS l) = some (l.map fun c => tS [c]) := by
  show itemsOf (.str (S l)) = _
  simp only [itemsOf, S_cps]; rfl
theorem strs_tS : ∀ ls : List (List Nat), strsOf (ls.map tS) = some (ls.map S)
  | [] => rfl
  | l :: ls => by rw [List.map_cons, show tS l = D.str (S l) from rfl, strsOf, strs_tS ls]; rfl
theorem bls_map : ∀ bs : List Bool, blsOf (bs.map D.bl) = some bs
  | [] => rfl
  | b :: bs => by rw [List.map_cons, blsOf, bls_map bs]; rfl
theorem ints_map : ∀ bs : List Int, intsOf (bs.map D.int) = some bs
  | [] => rfl
  | b :: bs => by rw [List.map_cons, intsOf, ints_map bs]; rfl
theorem S_inj_iff {l m : List Nat} : S l = S m ↔ l = m := ⟨S_inj, fun h => by rw [h]⟩
theorem atI_at {α : Type} {xs : List α} {j : Nat} {x : α} (h : xs[j]? = some x) : atI xs (j : Int) = some x := by
  have l := (List.getElem?_eq_some_iff.mp h).1
  unfold atI ixN
  rw [if_pos (by omega), if_pos (by omega)]
  simpa using h
theorem atI_last {α : Type} (xs : List α) (x : α) : atI (xs ++ [x]) (-1) = some x := by
  unfold atI ixN
  rw [if_neg (by decide), if_pos (by rw [List.length_append]; simp; omega)]
  rw [show ((-1 : Int) + ((xs ++ [x]).length : Nat)).toNat = xs.length by rw [List.length_append]; simp; omega]
  simp
theorem join0 (ls : List (List Nat)) : Txt.join (Str.ofString "") (ls.map S) = S ls.flatten := join_S ls
@[simp high] theorem andR_if (b : EM) (x : Bool) (ρ : Dx.Env) : E.andR b (.t (.bl x)) ρ = if x = true then b ρ else .ok (.t (.bl false)) ρ := by cases x <;> rfl
@[simp high] theorem orR_if (b : EM) (x : Bool) (ρ : Dx.Env) : E.orR b (.t (.bl x)) ρ = if x = true then .ok (.t (.bl true)) ρ else b ρ := by cases x <;> rfl
@[simp] theorem chR_if (b : Dx.Env → Z W) (x : Bool) (ρ : Dx.Env) : E.chR b (some (.t (.bl x))) ρ = if x = true then b ρ else .ok (.t (.bl false)) ρ := by cases x <;> rfl
@[simp] theorem upD_len (lo : Int) (n : Nat) : (I.upD lo n).length = n := by simp [I.upD]
@[simp] theorem dnD_len (lo : Int) (n : Nat) : (I.dnD lo n).length = n := by simp [I.dnD]
theorem upD_at {lo : Int} {n i : Nat} {d : D} (h : (I.upD lo n)[i]? = some d) : i < n ∧ d = .int (lo + (i : Nat)) := by
  unfold I.upD at h
  rw [List.getElem?_map] at h
  by_cases l : i < n
  · rw [List.getElem?_range l] at h; cases h; exact ⟨l, rfl⟩
  · rw [List.getElem?_eq_none (by simp; omega)] at h; cases h
theorem flat_len {ls : List (List Nat)} {m : Nat} (h : ∀ l ∈ ls, l.length ≤ m) : ls.flatten.length ≤ ls.length * m := by
  induction ls with
  | nil => simp
  | cons a r ih =>
    rw [List.flatten_cons, List.length_append, List.length_cons, Nat.succ_mul]
    have := h a List.mem_cons_self
    have := ih fun l hl => h l (List.mem_cons_of_mem _ hl)
    omega
/-- the pool of drawn numbers -/
def Pool (ds : List D) : Prop := ∃ x y : Int, ds = [.int x, .int y] ∧ 0 ≤ x ∧ 0 ≤ y ∧ y < 2147483647
theorem take_ok {ds : List D} (h : Pool ds) (n : Nat) (h1 : 1 ≤ n) (h2 : n < 1073741824) : ∃ (d : Nat) (ds' : List D), d < n ∧ Pool ds' ∧ m_law_take ds [.int n] = .ok (.t (.int d)) ds' := by
  obtain ⟨x, y, rfl, hx, hy, hy2⟩ := h
  have ex : atI [D.int x, D.int y] 0 = some (.int x) := rfl
  have ey : ∀ z, atI [D.int z, D.int y] 1 = some (.int y) := fun _ => rfl
  have n0 : (0 : Int) < n := by omega
  by_cases hp : 0 < x
  · have m0 := Int.emod_nonneg x (show (n : Int) ≠ 0 by omega)
    have m1 := Int.emod_lt_of_pos x n0
    obtain ⟨d, hd⟩ := Int.eq_ofNat_of_zero_le m0
    refine ⟨d, [.int (x / n), .int y], by omega, ⟨x / n, y, rfl, Int.ediv_nonneg hx (by omega), hy, hy2⟩, ?_⟩
    simp [m_law_take, b_law_take, ex, hp, n0, hd, show 0 < n by omega, h2, show (n : Int) < 1073741824 by omega]
  · have x0 : x = 0 := by omega
    subst x0
    have q0 := Int.emod_nonneg (y * 48271 + 12345) (show (2147483647 : Int) ≠ 0 by decide)
    have q1 := Int.emod_lt_of_pos (y * 48271 + 12345) (show (0 : Int) < 2147483647 by decide)
    generalize hq : (y * 48271 + 12345) % 2147483647 = q at q0 q1
    have m0 := Int.emod_nonneg (q * q % 2147483629 / 64) (show (n : Int) ≠ 0 by omega)
    have m1 := Int.emod_lt_of_pos (q * q % 2147483629 / 64) n0
    obtain ⟨d, hd⟩ := Int.eq_ofNat_of_zero_le m0
    refine ⟨d, [.int 0, .int q], by omega, ⟨0, q, rfl, hx, q0, q1⟩, ?_⟩
    have eq0 : atI [D.int 0, D.int q] 1 = some (.int q) := rfl
    simp [m_law_take, b_law_take, ex, ey, eq0, hq, n0, hd, show 0 < n by omega, h2, show -18446744073709551616 < q by omega, show q < 18446744073709551616 by omega]
/-- the codes of the steps, in order -/
def stepC : List Nat := [97, 65, 98, 66, 99, 67, 100, 68]
theorem stepsS : (Str.ofString "aAbBcCdD") = S stepC := by decide +kernel
/-- a path: codes of steps -/
def IsP (l : List Nat) : Prop := ∀ c ∈ l, c ∈ stepC
theorem IsP.nil : IsP [] := fun _ h => by cases h
theorem IsP.app {l m : List Nat} (h : IsP l) (k : IsP m) : IsP (l ++ m) := fun c hc => (List.mem_append.mp hc).elim (h c) (k c)
theorem IsP.one {c : Nat} (h : c ∈ stepC) : IsP [c] := fun d hd => by rw [List.mem_singleton] at hd; subst hd; exact h
/-- the step at a place below eight -/
theorem step_at {d : Nat} (h : d < 8) : ∃ c, c ∈ stepC ∧ stepC[d]? = some c := ⟨stepC[d]'h, List.getElem_mem _, List.getElem?_eq_getElem h⟩
theorem lit0 : (Str.ofString "") = S [] := by decide +kernel
theorem joinT (ls : List (List Nat)) : Txt.join (Str.ofString "") (ls.map S) = S ls.flatten := join_S ls
theorem len_flat1 : ∀ l : List Nat, (l.map fun c => [c]).flatten = l
  | [] => rfl
  | c :: l => by rw [List.map_cons, List.flatten_cons, len_flat1 l]; rfl
theorem sum_len1 : ∀ l : List Nat, ((l.map fun c => S [c]).map (·.length)).sum = l.length
  | [] => rfl
  | c :: l => by rw [List.map_cons, List.map_cons, List.sum_cons, sum_len1 l, S_len]; simp; omega
theorem strs_sg (l : List Nat) : strsOf (l.map fun c => tS [c]) = some (l.map fun c => S [c]) := by
  have := strs_tS (l.map fun c => [c])
  rw [List.map_map, List.map_map] at this
  exact this
theorem join_sgs (l : List Nat) : Txt.join (Str.ofString "") (l.map fun c => S [c]) = S l := by
  have := joinT (l.map fun c => [c])
  rw [List.map_map, len_flat1] at this
  exact this
theorem join_sg_ok (l : List Nat) (h : l.length ≤ 1000000) : O.join (.str (Str.ofString "")) [.lst (l.map fun c => tS [c])] = some (.t (tS l)) := by
  rw [q_O_join_1, strs_sg]
  simp only [sum_len1]
  rw [if_pos (by rw [lit0, S_len]; simp; omega), join_sgs]; rfl
theorem step_ix {d : Nat} (h : d < 8) : ∃ c, c ∈ stepC ∧ O.ix (.str (Str.ofString "aAbBcCdD")) (.int d) = some (.t (tS [c])) := by
  obtain ⟨c, hc, e⟩ := step_at h
  refine ⟨c, hc, ?_⟩
  rw [q_O_ix_4, stepsS, S_cps, if_pos (by rw [S_len]; decide), atI_at e]; rfl
theorem path_ok {ds : List D} (h : Pool ds) (most letters : Nat) (h1 : most ≤ 1000000) (h2 : 1 ≤ letters) (h3 : letters ≤ 4) :
    ∃ (l : List Nat) (ds' : List D), IsP l ∧ l.length ≤ most ∧ Pool ds' ∧ m_law_path ds [.int most, .int letters] = .ok (.t (tS l)) ds' := by
  obtain ⟨d, ds1, hd, P1, e1⟩ := take_ok h (most + 1) (by omega) (by omega)
  have e1' : m_law_take ds [.int ((most : Int) + 1)] = .ok (.t (.int d)) ds1 := e1
  obtain ⟨zs, ρ', e, ⟨ds2, l, rfl, P2, hz, hl, hll⟩⟩ := lcR_inv (vs := [3]) (g := G.name 3) (t := T.yes) (e := ce_law_path_1)
    (I.upD 0 d) (fun i ρ ys => ∃ ds' l, ρ = [.ol true ds', .tr (.int most), .tr (.int letters), .un] ∧ Pool ds' ∧ ys = (l : List Nat).map (fun c => tS [c]) ∧ IsP l ∧ l.length = i) 0 [.ol true ds1, .tr (.int most), .tr (.int letters), .un] [] ⟨ds1, [], rfl, P1, rfl, IsP.nil, rfl⟩ (by
      rintro i dd ρ ys hi ⟨ds', l, rfl, P', rfl, hl, hll⟩
      obtain ⟨k, ds2, hk, P2, e2⟩ := take_ok P' (2 * letters) (by omega) (by omega)
      have e2' : m_law_take ds' [.int (2 * (letters : Int))] = .ok (.t (.int k)) ds2 := e2
      obtain ⟨c, hc, ec⟩ := step_ix (d := k) (by omega)
      refine ⟨[tS [c]], [.ol true ds2, .tr (.int most), .tr (.int letters), .un], ?_, ds2, l ++ [c], rfl, P2, by simp, hl.app (IsP.one hc), by simp; omega⟩
      simp [ce_law_path_1, e2', -q_O_ix_4, -q_O_ix_5, ec])
  simp only [List.nil_append] at hz
  subst hz
  refine ⟨l, ds2, hl, by rw [hll]; simp; omega, P2, ?_⟩
  have hl2 : l.length ≤ 1000000 := by rw [hll]; simp; omega
  simp [m_law_path, b_law_path, e1', show (-4611686018427387904 : Int) ≤ d by omega, show (d : Int) < 4611686018427387904 by omega, e, show d ≤ 16000000 by omega, join_sg_ok l hl2]
/-- the other case of a letter -/
def sw (c : Nat) : Nat := if 65 ≤ c ∧ c ≤ 90 then c + 32 else if 97 ≤ c ∧ c ≤ 122 then c - 32 else c
theorem sw_sw (c : Nat) : sw (sw c) = c := by
  unfold sw
  split
  · rw [if_neg (by omega), if_pos (by omega)]; omega
  · split
    · rw [if_pos (by omega)]; omega
    · rfl
theorem sw_inj {c d : Nat} (h : sw c = sw d) : c = d := by rw [← sw_sw c, h, sw_sw]
theorem sw_eq {c d : Nat} (h : c = sw d) : d = sw c := by rw [h, sw_sw]
theorem sw_step : ∀ c ∈ stepC, sw c ∈ stepC := by decide +kernel
theorem sw_lt : ∀ c ∈ stepC, c < 128 := by decide +kernel
theorem step_ok {l : List Nat} (h : IsP l) : ((S l).cps.all fun c => decide (c < 0x110000)) = true := by
  rw [← Array.all_toList, S_cps, List.all_eq_true]
  exact fun c hc => decide_eq_true (by have := sw_lt c (h c hc); omega)
/-- a letter laid upon a stack, or cancelled with the last one -/
def push : List Nat → Nat → List Nat
  | [], c => [c]
  | x :: r, c => if x = sw c then r else c :: x :: r
theorem push_cons (x : Nat) (r : List Nat) (c : Nat) : push (x :: r) c = if x = sw c then r else c :: x :: r := rfl
def runP (st : List Nat) (l : List Nat) : List Nat := l.foldl push st
/-- the free reduction -/
def red (l : List Nat) : List Nat := (runP [] l).reverse
/-- no letter beside its inverse -/
def Rd : List Nat → Prop
  | [] => True
  | [_] => True
  | x :: y :: r => x ≠ sw y ∧ Rd (y :: r)
theorem Rd.tail {x : Nat} {r : List Nat} (h : Rd (x :: r)) : Rd r := by
  cases r with
  | nil => trivial
  | cons y r => exact h.2
theorem Rd.drop {a b : List Nat} (h : Rd (a ++ b)) : Rd b := by
  induction a with
  | nil => exact h
  | cons x r ih => exact ih h.tail
theorem Rd.push {st : List Nat} (h : Rd st) (c : Nat) : Rd (push st c) := by
  cases st with
  | nil => trivial
  | cons x r =>
    rw [push_cons]
    split
    · exact h.tail
    · rename_i n
      exact ⟨fun e => n (sw_eq e), h⟩
theorem Rd.run {st : List Nat} (h : Rd st) (l : List Nat) : Rd (runP st l) := by
  induction l generalizing st with
  | nil => exact h
  | cons c r ih => exact ih (h.push c)
theorem push_back {st : List Nat} (h : Rd st) (c : Nat) : push (push st c) (sw c) = st := by
  cases st with
  | nil => simp [push, sw_sw]
  | cons x r =>
    by_cases e : x = sw c
    · rw [push, if_pos e]
      cases r with
      | nil => rw [push, e]
      | cons y r =>
        rw [push, if_neg, e]
        intro q
        rw [sw_sw] at q
        exact h.1 (by rw [e, q])
    · rw [push, if_neg e, push, if_pos (by rw [sw_sw])]
theorem run_pair {st : List Nat} (h : Rd st) (c : Nat) (l : List Nat) : runP st (c :: sw c :: l) = runP st l := by
  show runP (push (push st c) (sw c)) l = _
  rw [push_back h]
theorem runP_app (st l m : List Nat) : runP st (l ++ m) = runP (runP st l) m := List.foldl_append
theorem red_pair (a b : List Nat) (c : Nat) : red (a ++ c :: sw c :: b) = red (a ++ b) := by
  unfold red
  rw [runP_app, run_pair (Rd.run (st := []) trivial a), ← runP_app]
/-- the letters of what is left are the path's -/
theorem runP_mem {st l : List Nat} {c : Nat} (h : c ∈ runP st l) : c ∈ st ∨ c ∈ l := by
  induction l generalizing st with
  | nil => exact .inl h
  | cons d r ih =>
    rcases ih (st := push st d) h with q | q
    · cases st with
      | nil => rw [push, List.mem_singleton] at q; exact .inr (by rw [q]; exact List.mem_cons_self)
      | cons x t =>
        rw [push_cons] at q
        split at q
        · exact .inl (List.mem_cons_of_mem _ q)
        · rcases List.mem_cons.mp q with q | q
          · exact .inr (by rw [q]; exact List.mem_cons_self)
          · exact .inl q
    · exact .inr (List.mem_cons_of_mem _ q)
theorem IsP.run {l : List Nat} (h : IsP l) : IsP (runP [] l) := fun c hc => by
  rcases runP_mem hc with q | q
  · cases q
  · exact h c q
theorem IsP.red {l : List Nat} (h : IsP l) : IsP (red l) := fun c hc => h.run c (List.mem_reverse.mp hc)
theorem push_len (st : List Nat) (c : Nat) : (push st c).length ≤ st.length + 1 := by
  cases st with
  | nil => simp [push]
  | cons x r => rw [push_cons]; split <;> simp <;> omega
theorem runP_len (st l : List Nat) : (runP st l).length ≤ st.length + l.length := by
  induction l generalizing st with
  | nil => exact Nat.le_refl _
  | cons c r ih =>
    have h1 := ih (st := push st c)
    have h2 := push_len st c
    show (runP (push st c) r).length ≤ _
    rw [List.length_cons]; omega
theorem red_len (l : List Nat) : (red l).length ≤ l.length := by
  have := runP_len [] l
  unfold red
  rw [List.length_reverse]
  simpa using this
/-- reduced lists, the other way round -/
theorem Rd.snoc {l : List Nat} {x y : Nat} (h : Rd (l ++ [x])) (n : x ≠ sw y) : Rd (l ++ [x, y]) := by
  induction l with
  | nil => exact ⟨n, trivial⟩
  | cons a r ih =>
    cases r with
    | nil => exact ⟨h.1, n, trivial⟩
    | cons b r => exact ⟨h.1, ih h.2⟩
theorem Rd.rev {l : List Nat} (h : Rd l) : Rd l.reverse := by
  induction l with
  | nil => trivial
  | cons a r ih =>
    cases r with
    | nil => trivial
    | cons b r =>
      have h1 := ih h.2
      rw [List.reverse_cons] at h1 ⊢
      rw [List.reverse_cons, List.append_assoc]
      exact Rd.snoc h1 fun e => h.1 (sw_eq e)
theorem Rd_red (l : List Nat) : Rd (red l) := (Rd.run (st := []) trivial l).rev
theorem run_rd : ∀ (l st : List Nat), Rd (l.reverse ++ st) → runP st l = l.reverse ++ st
  | [], _, _ => rfl
  | c :: r, st, h => by
    rw [List.reverse_cons, List.append_assoc] at h
    have hc : Rd (c :: st) := Rd.drop (a := r.reverse) (b := c :: st) h
    have e : push st c = c :: st := by
      cases st with
      | nil => rfl
      | cons x t => rw [push, if_neg fun q => hc.1 (sw_eq q)]
    show runP (push st c) r = _
    rw [e, run_rd r (c :: st) h, List.reverse_cons, List.append_assoc]; rfl
theorem red_rd {l : List Nat} (h : Rd l) : red l = l := by
  unfold red
  rw [run_rd l [] (by rw [List.append_nil]; exact h.rev), List.append_nil, List.reverse_reverse]
theorem red_red (l : List Nat) : red (red l) = red l := red_rd (Rd_red l)
/-- free equality -/
inductive Fr : List Nat → List Nat → Prop
  | refl (l) : Fr l l
  | pair (a : List Nat) (c : Nat) (b : List Nat) : Fr (a ++ c :: sw c :: b) (a ++ b)
  | symm {l m} : Fr l m → Fr m l
  | trans {l m n} : Fr l m → Fr m n → Fr l n
theorem Fr.red {l m : List Nat} (h : Fr l m) : red l = red m := by
  induction h with
  | refl => rfl
  | pair a c b => exact red_pair a b c
  | symm _ ih => exact ih.symm
  | trans _ _ h1 h2 => exact h1.trans h2
theorem Fr.run : ∀ (l st : List Nat), Fr (st.reverse ++ l) (runP st l).reverse
  | [], st => by rw [List.append_nil]; exact .refl _
  | c :: r, st => by
    refine .trans ?_ (Fr.run r (push st c))
    cases st with
    | nil => exact .refl _
    | cons x t =>
      rw [push_cons]
      split
      · rename_i e
        have h := Fr.pair t.reverse x r
        rw [show sw x = c by rw [e, sw_sw]] at h
        rw [List.reverse_cons, List.append_assoc]
        exact h
      · simp only [List.reverse_cons, List.append_assoc]
        exact .refl _
theorem Fr.self (l : List Nat) : Fr l (Pf.red l) := Fr.run l []
theorem Fr.of_red {l m : List Nat} (h : Pf.red l = Pf.red m) : Fr l m := (Fr.self l).trans (h ▸ (Fr.self m).symm)
theorem Fr.left (k : List Nat) {l m : List Nat} (h : Fr l m) : Fr (k ++ l) (k ++ m) := by
  induction h with
  | refl => exact .refl _
  | pair a c b => rw [← List.append_assoc, ← List.append_assoc]; exact .pair _ _ _
  | symm _ ih => exact ih.symm
  | trans _ _ h1 h2 => exact h1.trans h2
theorem Fr.right (k : List Nat) {l m : List Nat} (h : Fr l m) : Fr (l ++ k) (m ++ k) := by
  induction h with
  | refl => exact .refl _
  | pair a c b => rw [List.append_assoc, List.append_assoc]; exact .pair _ _ _
  | symm _ ih => exact ih.symm
  | trans _ _ h1 h2 => exact h1.trans h2
theorem Fr.app {l m l' m' : List Nat} (h : Fr l m) (h' : Fr l' m') : Fr (l ++ l') (m ++ m') := (h.right _).trans (h'.left _)
/-- the inverse -/
def inv (l : List Nat) : List Nat := l.reverse.map sw
theorem inv_app (l m : List Nat) : inv (l ++ m) = inv m ++ inv l := by unfold inv; rw [List.reverse_append, List.map_append]
theorem inv_inv (l : List Nat) : inv (inv l) = l := by
  unfold inv
  rw [← List.map_reverse, List.reverse_reverse, List.map_map]
  rw [show sw ∘ sw = id from funext sw_sw, List.map_id]
theorem IsP.inv {l : List Nat} (h : IsP l) : IsP (inv l) := fun c hc => by
  obtain ⟨d, hd, rfl⟩ := List.mem_map.mp hc
  exact sw_step d (h d (List.mem_reverse.mp hd))
theorem inv_len (l : List Nat) : (inv l).length = l.length := by simp [inv]
theorem Fr.inv {l m : List Nat} (h : Fr l m) : Fr (inv l) (inv m) := by
  induction h with
  | refl => exact .refl _
  | pair a c b =>
    rw [inv_app, inv_app]
    have : Pf.inv (c :: sw c :: b) = Pf.inv b ++ c :: [sw c] := by
      unfold Pf.inv
      simp [sw_sw]
    rw [this, List.append_assoc]
    exact .pair _ _ _
  | symm _ ih => exact ih.symm
  | trans _ _ h1 h2 => exact h1.trans h2
theorem Rd.map_sw {l : List Nat} (h : Rd l) : Rd (l.map sw) := by
  induction l with
  | nil => trivial
  | cons a r ih =>
    cases r with
    | nil => trivial
    | cons b r => exact ⟨fun e => h.1 (sw_inj e), ih h.2⟩
theorem Rd.inv {l : List Nat} (h : Rd l) : Rd (inv l) := h.rev.map_sw
theorem red_inv (l : List Nat) : red (inv l) = inv (red l) := by
  rw [(Fr.self l).inv.red, red_rd (Rd_red l).inv]
theorem Fr.cancel (l : List Nat) : Fr (l ++ Pf.inv l) [] := by
  induction l with
  | nil => exact .refl _
  | cons c r ih =>
    have : Pf.inv (c :: r) = Pf.inv r ++ [sw c] := by simp [Pf.inv]
    rw [this]
    have h := (ih.right [sw c]).left [c]
    rw [List.append_assoc] at h
    exact h.trans (.pair [] c [])
theorem rd_iff (l : List Nat) : Rd l ↔ red l = l := ⟨red_rd, fun h => h ▸ Rd_red l⟩
/-- no pair stands anywhere -/
theorem rd_of_at : ∀ {l : List Nat}, (∀ (i : Nat) (x y : Nat), l[i]? = some x → l[i + 1]? = some y → x ≠ sw y) → Rd l
  | [], _ => trivial
  | [_], _ => trivial
  | x :: y :: r, h => ⟨h 0 x y rfl rfl, rd_of_at fun i a b ha hb => h (i + 1) a b ha hb⟩
theorem rd_at : ∀ {l : List Nat} {i x y : Nat}, Rd l → l[i]? = some x → l[i + 1]? = some y → x ≠ sw y
  | [], _, _, _, _, h, _ => by simp at h
  | [_], 0, _, _, _, _, h => by simp at h
  | [_], i + 1, _, _, _, h, _ => by simp at h
  | a :: b :: r, 0, x, y, h, h1, h2 => by
    have e1 : a = x := Option.some.inj h1
    have e2 : b = y := Option.some.inj h2
    rw [← e1, ← e2]; exact h.1
  | a :: b :: r, i + 1, x, y, h, h1, h2 => rd_at (i := i) h.2 h1 h2
theorem swap_S {l : List Nat} (h : IsP l) : Txt.swapcase (S l) = S (l.map sw) := by
  unfold Txt.swapcase
  have : placed (S l) (fun i c => if Unicode.isUpper c then Unicode.lowerAt (S l).cps i else if Unicode.isLower c then Unicode.upperOf c else [c]) = (S l).cps.map sw := by
    refine placed_single _ _ sw fun i c hc => ?_
    have hc' : c ∈ stepC := h c (by rw [← S_cps l]; exact List.mem_of_getElem? hc)
    have h1 : ∀ c ∈ stepC, (if Unicode.isUpper c = true then Unicode.lowerOf c else if Unicode.isLower c = true then Unicode.upperOf c else [c]) = [sw c] := by decide +kernel
    have h2 : Unicode.lowerAt (S l).cps i = Unicode.lowerOf c := by
      have hz : (S l).cps[i]? = some c := by rw [← Array.getElem?_toList]; exact hc
      unfold Unicode.lowerAt
      rw [hz]
      have hne : (c == 0x3A3) = false := by
        rw [beq_eq_false_iff_ne]; have := sw_lt c hc'; omega
      simp only [hne, Bool.false_and, Bool.false_eq_true, if_false]
    rw [h2]
    exact h1 c hc'
  rw [this]
  unfold S
  simp
/-- Lean data as the model's data: what == says of it -/
structure Emb {α : Type} [DecidableEq α] (f : α → PyData) (P : α → Prop) (n : Nat) : Prop where
  lay : ∀ a, P a → (f a).canLay0 = true
  dep : ∀ a, (f a).depth ≤ n
  eqv : ∀ a b, PyData.eqv (f a) (f b) = decide (a = b)
section
variable {α β γ : Type} [DecidableEq α] [DecidableEq β] [DecidableEq γ] {f : α → PyData} {g : β → PyData} {k : γ → PyData} {n m : Nat} {P : α → Prop} {R : β → Prop}
theorem Emb.shaped (e : Emb f P n) (a : α) (ha : P a) (h : n ≤ 64 := by decide) : SeqAt.shaped (f a) = true := by
  unfold SeqAt.shaped
  rw [e.lay a ha, Bool.true_and]
  exact decide_eq_true (Nat.le_trans (e.dep a) h)
theorem Emb.int : Emb PyData.int (fun _ => True) 0 := ⟨fun _ _ => rfl, fun _ => Nat.le_refl _, fun a b => by rw [PyData.eqv]; exact Bool.beq_eq_decide_eq a b⟩
theorem Emb.str : Emb PyData.str (fun z => (z.cps.all fun c => decide (c < 0x110000)) = true) 0 := ⟨fun _ h => by rw [PyData.canLay0]; exact h, fun _ => Nat.le_refl _, fun a b => by rw [PyData.eqv]; exact Bool.beq_eq_decide_eq a b⟩
theorem Emb.bool : Emb PyData.bool (fun _ => True) 0 := ⟨fun _ _ => rfl, fun _ => Nat.le_refl _, fun a b => by rw [PyData.eqv]; exact Bool.beq_eq_decide_eq a b⟩
theorem Emb.comp (e : Emb f P n) (h : β → α) (inj : ∀ a b, h a = h b → a = b) : Emb (fun b => f (h b)) (fun b => P (h b)) n :=
  ⟨fun _ q => e.lay _ q, fun _ => e.dep _, fun a b => by rw [e.eqv]; exact decide_eq_decide.mpr ⟨inj a b, fun q => by rw [q]⟩⟩
theorem Emb.all (e : Emb f P n) : ∀ l m : List α, PyData.eqvAll (l.map f) (m.map f) = decide (l = m)
  | [], [] => rfl
  | [], _ :: _ => by simp [PyData.eqvAll]
  | _ :: _, [] => by simp [PyData.eqvAll]
  | x :: l, y :: m => by
    rw [List.map_cons, List.map_cons, PyData.eqvAll, e.eqv, e.all l m]
    by_cases h : x = y
    · by_cases h2 : l = m <;> simp [h, h2]
    · simp [h]
theorem Emb.lays (e : Emb f P n) : ∀ l : List α, (∀ a ∈ l, P a) → PyData.canLayAll0 (l.map f) = true
  | [], _ => rfl
  | x :: l, h => by rw [List.map_cons, PyData.canLayAll0, e.lay _ (h _ List.mem_cons_self), e.lays l fun a ha => h a (List.mem_cons_of_mem _ ha)]; rfl
theorem Emb.deps (e : Emb f P n) : ∀ l : List α, PyData.depthAll (l.map f) ≤ n
  | [] => Nat.zero_le _
  | x :: l => by rw [List.map_cons, PyData.depthAll]; exact Nat.max_le.mpr ⟨e.dep x, e.deps l⟩
theorem Emb.list (e : Emb f P n) : Emb (fun l : List α => PyData.list (l.map f)) (fun l => ∀ a ∈ l, P a) (n + 1) :=
  ⟨fun l h => by rw [PyData.canLay0]; exact e.lays l h, fun l => by rw [PyData.depth]; have := e.deps l; omega, fun a b => by rw [PyData.eqv, e.all]⟩
theorem Emb.tupl (e : Emb f P n) : Emb (fun l : List α => PyData.tuple (l.map f)) (fun l => ∀ a ∈ l, P a) (n + 1) :=
  ⟨fun l h => by rw [PyData.canLay0]; exact e.lays l h, fun l => by rw [PyData.depth]; have := e.deps l; omega, fun a b => by rw [PyData.eqv, e.all]⟩
end
theorem dp_map {K : PySem.W.Frag} {H : Hp} {α : Type} {f : α → PyData} {v : α → V} (h : ∀ a, Dp K H (v a) (f a)) : ∀ l : List α, DpAll K H (l.map v) (l.map f)
  | [] => .nil
  | _ :: r => .cons (h _) (dp_map h r)
theorem eqv_nil {α : Type} [DecidableEq α] {f : α → PyData} {P : α → Prop} {n : Nat} (e : Emb f P n) (l : List α) : PyData.eqv (.list (l.map f)) (.list []) = decide (l = []) := e.list.eqv l []
theorem cut_to (l : List Nat) (k : Nat) : cutS (S l) none (some (k : Int)) = S (l.take k) := by
  unfold cutS
  rw [HT.sIx_none, HT.sIx_nat, S_cps, S_len, List.drop_zero, Nat.sub_zero]
  show S _ = _
  congr 1
  by_cases h : k ≤ l.length
  · rw [Nat.min_eq_left h]
  · rw [Nat.min_eq_right (by omega), List.take_of_length_le (Nat.le_refl _), List.take_of_length_le (by omega)]
theorem cut_from (l : List Nat) (k : Nat) : cutS (S l) (some (k : Int)) none = S (l.drop k) := by
  unfold cutS
  rw [HT.sIx_none, HT.sIx_nat, S_cps, S_len]
  show S _ = _
  congr 1
  by_cases h : k ≤ l.length
  · rw [Nat.min_eq_left h, List.take_of_length_le (by rw [List.length_drop]; exact Nat.le_refl _)]
  · rw [Nat.min_eq_right (by omega), List.drop_of_length_le (Nat.le_refl _), List.drop_of_length_le (by omega), List.take_nil]
theorem cut_last (l : List Nat) (x : Nat) : cutS (S (l ++ [x])) none (some (-1)) = S l := by
  unfold cutS
  have e : HT.sIx (S (l ++ [x])).length (S (l ++ [x])).length (some (-1)) = l.length := by
    rw [S_len, List.length_append, List.length_singleton]
    show (if (-1 : Int) < 0 then ((-1 : Int) + ((l.length + 1 : Nat) : Int)).toNat else min (-1 : Int).toNat (l.length + 1)) = l.length
    rw [if_pos (by decide)]
    omega
  rw [e, HT.sIx_none, S_cps, List.drop_zero, Nat.sub_zero]
  show S _ = _
  congr 1
  simp
theorem len_tS (l : List Nat) : (S l).length = l.length := S_len l
/-- a value is a path -/
theorem all_in (l : List Nat) : lcR [1] (G.name 1) T.yes ce_is_path_1 (l.map fun c => tS [c]) [.tr (.str (S l)), .un] = .ok ((l.map fun c => decide (c ∈ stepC)).map D.bl) [.tr (.str (S l)), .un] := by
  rw [List.map_map]
  refine lcR_map l fun c hc => ?_
  simp [ce_is_path_1, stepsS, S_cps]
def isPth (l : List Nat) : Bool := decide (l.length ≤ 400) && l.all fun c => decide (c ∈ stepC)
theorem isPth_iff {l : List Nat} : isPth l = true ↔ IsP l ∧ l.length ≤ 400 := by
  unfold isPth IsP
  simp [and_comm]
theorem is_path_S (l : List Nat) (h : l.length ≤ 1000000) : m_is_path [tS l] = .ok (.t (.bl (isPth l))) [] := by
  have e := all_in l
  by_cases g : l.length ≤ 400
  · simp [m_is_path, b_is_path, S_len, S_cps, show l.length ≤ 16000000 by omega, g, show (l.length : Int) ≤ 400 by omega, isPth, -List.map_map, e, bls_map]
  · simp [m_is_path, b_is_path, S_len, show l.length ≤ 16000000 by omega, g, show ¬ (l.length : Int) ≤ 400 by omega, isPth]
theorem is_path_no {d : D} {t : Ty} (h : d.tyc = some t) (n : t ≠ .str) : m_is_path [d] = .ok (.t (.bl false)) [] := by
  have e : isaB t .str = false := by cases t <;> first | rfl | exact absurd rfl n
  simp [m_is_path, b_is_path, h, n]
theorem reduce_step (l : List Nat) (c : Nat) : l = [] ∨ ∃ r x, l = r ++ [x] := by
  rcases List.eq_nil_or_concat l with h | ⟨r, x, h⟩
  · exact .inl h
  · exact .inr ⟨r, x, by rw [h, List.concat_eq_append]⟩
theorem str_shape {l : List Nat} (h : IsP l) : SeqAt.shaped (.list (D.pys (l.map fun c => tS [c]))) = true := by
  have : D.pys (l.map fun c => tS [c]) = (l.map fun c => S [c]).map PyData.str := by
    induction l with
    | nil => rfl
    | cons c l ih => rw [List.map_cons, D.pys, ih fun x hx => h x (List.mem_cons_of_mem _ hx)]; rfl
  rw [this]
  refine Emb.str.list.shaped _ fun z hz => ?_
  obtain ⟨c, hc, rfl⟩ := List.mem_map.mp hz
  exact step_ok (IsP.one (h c hc))
theorem plains_sg (l : List Nat) : D.plains (l.map fun c => tS [c]) = true := by
  induction l with
  | nil => rfl
  | cons c l ih => rw [List.map_cons, D.plains, ih]; rfl
theorem pys_ne {l : List D} (h : l ≠ []) : PyData.eqvAll (D.pys l) [] = false := by
  cases l with
  | nil => exact absurd rfl h
  | cons d l => rfl
def sgs (l : List Nat) : List D := l.map fun c => tS [c]
theorem sgs_map (l : List Nat) : (l.map fun c => D.str (S [c])) = sgs l := rfl
theorem sgs_len (l : List Nat) : (sgs l).length = l.length := by simp [sgs]
theorem sgs_app (l m : List Nat) : sgs (l ++ m) = sgs l ++ sgs m := by simp [sgs]
theorem sgs_one (c : Nat) : sgs [c] = [tS [c]] := rfl
theorem sgs_nil : sgs [] = [] := rfl
theorem ne_nil {l : List Nat} (h : IsP l) : O.ne (.lst (sgs l)) (.lst []) = some (.t (.bl (decide (l ≠ [])))) := by
  cases l <;> rfl
theorem swap1 {c : Nat} (h : c ∈ stepC) : Txt.swapcase (S [c]) = S [sw c] := by
  have := swap_S (IsP.one h)
  exact this
theorem ra_step {st : List Nat} {c : Nat} (h : IsP st) (hc : c ∈ stepC) (hl : st.length < 15000000) (a b x : Dx.Slot) :
    S.foB bl_reduce_all_1 (G.name 3) (tS [c]) [a, .ol false (sgs st.reverse), b, x] = .ok .nx [a, .ol false (sgs (push st c).reverse), b, .tr (tS [c])] := by
  have n := ne_nil (l := st.reverse) (fun y hy => h y (List.mem_reverse.mp hy))
  have sl : (S [c]).length ≤ 5592405 := by rw [S_len]; simp
  have sz : (sgs st.reverse).length < 16000000 := by rw [sgs_len, List.length_reverse]; omega
  cases st with
  | nil =>
    simp [sgs_nil] at n
    simp [bl_reduce_all_1, push, sgs_nil, sgs_one, n]
  | cons y st =>
    have e1 : (sgs (y :: st).reverse) = sgs st.reverse ++ [tS [y]] := by rw [List.reverse_cons, sgs_app, sgs_one]
    have hn : (y :: st).reverse ≠ [] := by simp
    rw [decide_eq_true hn, e1] at n
    rw [e1] at sz
    have ix : atI (sgs st.reverse ++ [tS [y]]) (-1) = some (tS [y]) := atI_last _ _
    rw [e1, push_cons]
    by_cases e : y = sw c
    · rw [if_pos e]
      subst e
      simp [bl_reduce_all_1, n, ix, sl, swap1 hc]
    · rw [if_neg e, List.reverse_cons, List.reverse_cons, sgs_app, sgs_app, sgs_one, sgs_one]
      simp at sz
      simp [bl_reduce_all_1, n, ix, sl, swap1 hc, S_inj_iff, e, sz]
theorem ra_in {a b : Dx.Slot} : ∀ (l st : List Nat) (x : Dx.Slot), IsP l → IsP st → st.length + l.length < 15000000 →
    ∃ x', forR (S.foB bl_reduce_all_1 (G.name 3)) (sgs l) [a, .ol false (sgs st.reverse), b, x] = .ok .nx [a, .ol false (sgs (runP st l).reverse), b, x']
  | [], st, x, _, _, _ => ⟨x, rfl⟩
  | c :: l, st, x, hl, hs, hz => by
    have hc := hl c List.mem_cons_self
    have p1 : IsP (push st c) := fun y hy => by
      have := runP_mem (st := st) (l := [c]) (c := y) hy
      rcases this with h | h
      · exact hs y h
      · rw [List.mem_singleton.mp h]; exact hc
    have pl := push_len st c
    obtain ⟨x', e⟩ := ra_in (a := a) (b := b) l (push st c) (.tr (tS [c])) (fun y hy => hl y (List.mem_cons_of_mem _ hy)) p1 (by simp at hz; omega)
    refine ⟨x', ?_⟩
    show forR _ (tS [c] :: sgs l) _ = _
    rw [forR, ra_step hs hc (by simp at hz; omega)]
    exact e
theorem ra_out {a : Dx.Slot} : ∀ (ls : List (List Nat)) (st : List Nat) (b x : Dx.Slot), (∀ l ∈ ls, IsP l) → IsP st → st.length + ls.flatten.length < 15000000 →
    ∃ b' x', forR (S.foB bl_reduce_all_2 (G.name 2)) (ls.map tS) [a, .ol false (sgs st.reverse), b, x] = .ok .nx [a, .ol false (sgs (runP st ls.flatten).reverse), b', x']
  | [], st, b, x, _, _, _ => ⟨b, x, rfl⟩
  | l :: ls, st, b, x, hl, hs, hz => by
    rw [List.flatten_cons, List.length_append] at hz
    have hl1 := hl l List.mem_cons_self
    obtain ⟨x1, e1⟩ := ra_in (a := a) (b := .tr (tS l)) l st x hl1 hs (by omega)
    have p1 : IsP (runP st l) := fun y hy => (runP_mem hy).elim (hs y) (hl1 y)
    have pl := runP_len st l
    obtain ⟨b', x', e2⟩ := ra_out (a := a) ls (runP st l) (.tr (tS l)) x1 (fun k hk => hl k (List.mem_cons_of_mem _ hk)) p1 (by omega)
    refine ⟨b', x', ?_⟩
    rw [List.map_cons, forR, List.flatten_cons, runP_app, ← e2]
    simp [bl_reduce_all_2, S_cps, sgs_map, -forR, e1]
theorem join_sgs_ok (l : List Nat) (h : l.length ≤ 1000000) : O.join (.str (Str.ofString "")) [.lst (sgs l)] = some (.t (tS l)) := join_sg_ok l h
theorem reduce_all_ok (ls : List (List Nat)) (h : ∀ l ∈ ls, IsP l) (hz : ls.flatten.length ≤ 1000000) : m_reduce_all [.lst (ls.map tS)] = .ok (.t (tS (red ls.flatten))) [] := by
  obtain ⟨b, x, e⟩ := ra_out (a := .tr (.lst (ls.map tS))) ls [] .un .un h IsP.nil (by rw [List.length_nil]; omega)
  have hl := red_len ls.flatten
  have j := join_sgs_ok (red ls.flatten) (by omega)
  simp only [List.reverse_nil, sgs_nil] at e
  simp [m_reduce_all, b_reduce_all, -forR, e, -q_O_join_1, -q_O_join_2]
  have j2 : O.join (.str (Str.ofString "")) [.lst (sgs (runP [] ls.flatten).reverse)] = some (.t (tS (red ls.flatten))) := j
  simp [j2]
theorem reduce_all_tup (ls : List (List Nat)) (h : ∀ l ∈ ls, IsP l) (hz : ls.flatten.length ≤ 1000000) : m_reduce_all [.tup (ls.map tS)] = .ok (.t (tS (red ls.flatten))) [] := by
  obtain ⟨b, x, e⟩ := ra_out (a := .tr (.tup (ls.map tS))) ls [] .un .un h IsP.nil (by rw [List.length_nil]; omega)
  have hl := red_len ls.flatten
  have j := join_sgs_ok (red ls.flatten) (by omega)
  simp only [List.reverse_nil, sgs_nil] at e
  simp [m_reduce_all, b_reduce_all, -forR, e, -q_O_join_1, -q_O_join_2]
  have j2 : O.join (.str (Str.ofString "")) [.lst (sgs (runP [] ls.flatten).reverse)] = some (.t (tS (red ls.flatten))) := j
  simp [j2]
theorem reduce_one (l : List Nat) (h : IsP l) (hz : l.length ≤ 1000000) : m_reduce_all [.lst [.str (S l)]] = .ok (.t (tS (red l))) [] := by
  have := reduce_all_ok [l] (by simpa using h) (by simpa using hz)
  simpa using this
theorem require_path_ok {l : List Nat} (h : IsP l) (hl : l.length ≤ 400) : m_require_path [tS l] = .ok (.t .non) [] := by
  have e := is_path_S l (by omega)
  rw [isPth_iff.mpr ⟨h, hl⟩] at e
  simp [m_require_path, b_require_path, e]
theorem reduced_ok {l : List Nat} (h : IsP l) (hl : l.length ≤ 400) : m_reduced [tS l] = .ok (.t (tS (red l))) [] := by
  have e1 := require_path_ok h hl
  have e2 := reduce_one l h (by omega)
  simp [m_reduced, b_reduced, e1, e2]
def isI : D → Bool
  | .int _ => true
  | _ => false
def okT (d : D) : Prop := ∃ t, d.tyc = some t
theorem is_integer_ok {d : D} (h : okT d) : m_is_integer [d] = .ok (.t (.bl (isI d))) [] := by
  obtain ⟨t, h⟩ := h
  cases d <;> simp at h <;> subst h <;> simp [m_is_integer, b_is_integer, isI]
theorem inverted_ok {l : List Nat} (h : IsP l) (hl : l.length ≤ 1000000) : m_inverted [tS l] = .ok (.t (tS (inv l))) [] := by
  have e : (⟨l.reverse.toArray⟩ : Str) = S l.reverse := rfl
  have sw1 : Txt.swapcase (S l.reverse) = S (inv l) := swap_S (l := l.reverse) fun c hc => h c (List.mem_reverse.mp hc)
  simp [m_inverted, b_inverted, S_len, S_cps, show l.length ≤ 16000000 by omega]
  first | rw [e] | skip
  simp [S_len, show l.length ≤ 5592405 by omega, sw1]
/-- a list of texts of steps, as a list or a tuple -/
def seqD (b : Bool) (ds : List D) : D := if b then .lst ds else .tup ds
theorem isa_seq (b : Bool) (ds : List D) : O.isa [seqD b ds, .tup [.ty "list", .ty "tuple"]] = some (.t (.bl true)) := by cases b <;> simp [seqD]
theorem len_seq (b : Bool) (ds : List D) : O.len [seqD b ds] = some (.t (.int ds.length)) := by cases b <;> rfl
theorem items_seq (b : Bool) (ds : List D) : itemsOf (seqD b ds) = some ds := by cases b <;> rfl
theorem en_seq (b : Bool) (ds : List D) (ρ : Dx.Env) : I.enR [seqD b ds] ρ = .ok (I.enD ds) ρ := by cases b <;> rfl
theorem enD_at {zs : List D} {i : Nat} {d : D} (h : (I.enD zs)[i]? = some d) : ∃ z, zs[i]? = some z ∧ d = .tup [.int (i : Nat), z] := by
  unfold I.enD at h
  rw [List.getElem?_map, List.getElem?_zipIdx] at h
  cases e : zs[i]? with
  | none => rw [e] at h; cases h
  | some z => rw [e] at h; simp at h; exact ⟨z, rfl, h.symm⟩
theorem enD_len (zs : List D) : (I.enD zs).length = zs.length := by simp [I.enD]
theorem require_paths_ok (b : Bool) {ls : List (List Nat)} (h : ∀ l ∈ ls, IsP l ∧ l.length ≤ 400) (most : Nat) (hm : ls.length ≤ most) : m_require_paths [seqD b (ls.map tS), .int most] = .ok (.t .non) [] := by
  obtain ⟨ρ', e, c, d, rfl⟩ := forR_inv (B := S.foB bl_require_paths_1 (G.tup 2 (G.cons (G.name 2) (G.cons (G.name 3) G.nil))))
    (I.enD (ls.map tS)) (fun i ρ => ∃ c d, ρ = [.tr (seqD b (ls.map tS)), .tr (.int most), c, d]) 0 _ ⟨.un, .un, rfl⟩ (by
      rintro i d ρ hd ⟨c, d', rfl⟩
      obtain ⟨z, hz, rfl⟩ := enD_at hd
      rw [List.getElem?_map] at hz
      cases el : ls[i]? with
      | none => rw [el] at hz; cases hz
      | some l =>
        rw [el] at hz
        cases hz
        obtain ⟨hp, hl⟩ := h l (List.mem_of_getElem? el)
        have e := is_path_S l (by omega)
        rw [isPth_iff.mpr ⟨hp, hl⟩] at e
        exact ⟨[.tr (seqD b (ls.map tS)), .tr (.int most), .tr (.int (i : Nat)), .tr (tS l)], by simp [bl_require_paths_1, e], _, _, rfl⟩)
  simp [m_require_paths, b_require_paths, -q_O_isa_2, isa_seq, -q_O_len_2, len_seq, en_seq, -forR, e, show ¬ ((most : Int) < ls.length) by omega, show ¬ (most < ls.length) by omega]
theorem reduced_generator_ok {l : List Nat} (h : IsP l) (hl : l.length ≤ 400) (hr : (red l).length ≤ 60) : m_reduced_generator [tS l] = .ok (.t (tS (red l))) [] := by
  have e := reduce_one l h (by omega)
  simp [m_reduced_generator, b_reduced_generator, e, S_len, show (red l).length ≤ 16000000 by omega, show ¬ (60 : Int) < (red l).length by omega, show ¬ 60 < (red l).length by omega]
theorem reduced_generators_ok (b : Bool) {ls : List (List Nat)} (h : ∀ l ∈ ls, IsP l ∧ l.length ≤ 400 ∧ (red l).length ≤ 60) (hz : ls.length ≤ 16) : m_reduced_generators [seqD b (ls.map tS)] = .ok (.f ((ls.map red).map tS)) [] := by
  have e1 := require_paths_ok b (fun l hl => ⟨(h l hl).1, (h l hl).2.1⟩) ls.length (Nat.le_refl _)
  have e2 : lcR [1] (G.name 1) T.yes ce_reduced_generators_1 (ls.map tS) [.tr (seqD b (ls.map tS)), .un] = .ok (ls.map fun l => tS (red l)) [.tr (seqD b (ls.map tS)), .un] :=
    lcR_map ls fun l hl => by
      obtain ⟨h1, h2, h3⟩ := h l hl
      simp [ce_reduced_generators_1, reduced_generator_ok h1 h2 h3]
  have e3 : (ls.map red).map tS = ls.map fun l => tS (red l) := by rw [List.map_map]; rfl
  rw [e3]
  simp [m_reduced_generators, b_reduced_generators, -q_O_isa_2, isa_seq, -q_O_len_2, len_seq, e1, items_seq, -lcR, e2, show ¬ ((16 : Int) < ls.length) by omega, show ¬ (16 < ls.length) by omega, show ls.length ≤ 16000000 by omega]
def okF (d : D) : Prop := okT d ∧ ∀ ds, d = .tup ds → ∀ x ∈ ds, okT x
theorem isI_of {d : D} (h : isI d = true) : ∃ i, d = .int i := by cases d <;> first | exact ⟨_, rfl⟩ | cases h
/-- the place of a step -/
def ixC (c : Nat) : Nat := stepC.idxOf c
theorem occ_step : ∀ c ∈ stepC, Builtin.Str.occurrences (Str.ofString "aAbBcCdD") (S [c]) 0 (Str.ofString "aAbBcCdD").length 1 = [ixC c] := by decide +kernel
theorem ixC_lt : ∀ c ∈ stepC, ixC c < 8 := by decide +kernel
/-- the order of lists of ints, the shorter first where one begins the other -/
def lexB : List Int → List Int → Bool
  | [], [] => false
  | [], _ :: _ => true
  | _ :: _, [] => false
  | x :: xs, y :: ys => if x = y then lexB xs ys else decide (x < y)
theorem toks_ints : ∀ (xs ys : List Int), PyProof.Rows.lexLt PyProof.Rows.itemOrd (PySem.W.keyToksAll (xs.map PyData.int)) (PySem.W.keyToksAll (ys.map PyData.int)) = lexB xs ys
  | [], [] => by decide +kernel
  | [], y :: ys => by
    rw [List.map_cons, PySem.W.toks_all_cons, List.map_nil, PySem.W.keyToksAll]
    rw [PyProof.Rows.lex_diff (O := PyProof.Rows.itemOrd) (by decide)]
    rfl
  | x :: xs, [] => by
    rw [List.map_cons, PySem.W.toks_all_cons, List.map_nil, PySem.W.keyToksAll]
    rw [PyProof.Rows.lex_diff (O := PyProof.Rows.itemOrd) (by decide)]
    rfl
  | x :: xs, y :: ys => by
    by_cases e : x = y
    · subst e
      rw [List.map_cons, List.map_cons, PySem.W.dataLt_all_yes (by rfl) (by simp [PyData.eqv]), toks_ints xs ys]
      simp [lexB]
    · rw [List.map_cons, List.map_cons, PySem.W.dataLt_all_no (by rfl) (by simp [PyData.eqv, e]), PySem.W.dataLt_int]
      simp [lexB, e]
theorem lt_pair (a b : Int) (xs ys : List PyData) (hxy : PySem.W.alikeAll xs ys = true) : PySem.W.dataLt (.tuple (.int a :: xs)) (.tuple (.int b :: ys)) = if a = b then PyProof.Rows.lexLt PyProof.Rows.itemOrd (PySem.W.keyToksAll xs) (PySem.W.keyToksAll ys) else decide (a < b) := by
  rw [PySem.W.dataLt_tuple]
  by_cases e : a = b
  · subst e; rw [if_pos rfl, PySem.W.dataLt_all_yes (by rfl) (by simp [PyData.eqv])]
  · rw [if_neg e, PySem.W.dataLt_all_no (by rfl) (by simp [PyData.eqv, e]), PySem.W.dataLt_int]
theorem toks_one (x y : PyData) (h : PySem.W.alike x y = true) (hr : PyData.eqv x y = true → PySem.W.dataLt x y = false) : PyProof.Rows.lexLt PyProof.Rows.itemOrd (PySem.W.keyToksAll [x]) (PySem.W.keyToksAll [y]) = PySem.W.dataLt x y := by
  cases e : PyData.eqv x y with
  | true => rw [PySem.W.dataLt_all_yes h e, hr e]; decide +kernel
  | false => rw [PySem.W.dataLt_all_no h e]
theorem lexB_irr : ∀ xs, lexB xs xs = false
  | [] => rfl
  | x :: xs => by simp [lexB, lexB_irr xs]
theorem eqv_ints : ∀ xs ys : List Int, PyData.eqvAll (xs.map .int) (ys.map .int) = true → xs = ys
  | [], [], _ => rfl
  | [], _ :: _, h => by simp [PyData.eqvAll] at h
  | _ :: _, [], h => by simp [PyData.eqvAll] at h
  | x :: xs, y :: ys, h => by
    rw [List.map_cons, List.map_cons, PySem.W.eqv_all_cons, Bool.and_eq_true] at h
    have h1 : x = y := by simpa [PyData.eqv] using h.1
    rw [h1, eqv_ints xs ys h.2]
theorem alike_ints : ∀ xs ys : List Int, PySem.W.alikeAll (xs.map .int) (ys.map .int) = true
  | [], _ => by simp [PySem.W.alikeAll]
  | _ :: _, [] => by simp [PySem.W.alikeAll]
  | x :: xs, y :: ys => by rw [List.map_cons, List.map_cons, PySem.W.alikeAll, alike_ints xs ys]; rfl
/-- the keys of two paths compared -/
theorem lt_keys (a b : Int) (xs ys : List Int) : PySem.W.dataLt (.tuple [.int a, .list (xs.map .int)]) (.tuple [.int b, .list (ys.map .int)]) = if a = b then lexB xs ys else decide (a < b) := by
  rw [lt_pair a b _ _ (by rw [PySem.W.alikeAll, PySem.W.alike, alike_ints]; simp [PySem.W.alikeAll])]
  by_cases e : a = b
  · rw [if_pos e, if_pos e, toks_one _ _ (by rw [PySem.W.alike]; exact alike_ints xs ys) fun h => ?_, PySem.W.dataLt_list, toks_ints]
    rw [PyData.eqv] at h
    rw [eqv_ints xs ys h, PySem.W.dataLt_list, toks_ints, lexB_irr]
  · rw [if_neg e, if_neg e]
theorem lt_ints2 (a b c d : Int) : PySem.W.dataLt (.tuple [.int a, .int b]) (.tuple [.int c, .int d]) = if a = c then decide (b < d) else decide (a < c) := by
  rw [lt_pair a c _ _ (by rfl)]
  by_cases e : a = c
  · rw [if_pos e, if_pos e, toks_one _ _ (by rfl) fun h => ?_, PySem.W.dataLt_int]
    have h1 : b = d := by simpa [PyData.eqv] using h
    rw [h1, PySem.W.dataLt_int]; simp
  · rw [if_neg e, if_neg e]
/-- the number of a path, base eight -/
def rk (a : Nat) : List Nat → Nat
  | [] => a
  | c :: r => rk (a * 8 + ixC c) r
theorem rk_lt : ∀ (l m : List Nat) (a b : Nat), IsP l → IsP m → l.length = m.length → a < b → rk a l < rk b m
  | [], [], _, _, _, _, _, h => h
  | c :: l, d :: m, a, b, hl, hm, e, h => by
    have h1 := ixC_lt c (hl c (by simp)); have h2 := ixC_lt d (hm d (by simp))
    exact rk_lt l m _ _ (fun x hx => hl x (by simp [hx])) (fun x hx => hm x (by simp [hx])) (by simpa using e) (by omega)
  | [], _ :: _, _, _, _, _, e, _ => by simp at e
  | _ :: _, [], _, _, _, _, e, _ => by simp at e
theorem lex_rk : ∀ (l m : List Nat) (a : Nat), IsP l → IsP m → l.length = m.length → lexB (l.map fun c => (ixC c : Int)) (m.map fun c => (ixC c : Int)) = decide (rk a l < rk a m)
  | [], [], _, _, _, _ => by simp [lexB, rk]
  | c :: l, d :: m, a, hl, hm, e => by
    have hl' : IsP l := fun x hx => hl x (by simp [hx]); have hm' : IsP m := fun x hx => hm x (by simp [hx])
    have e' : l.length = m.length := by simpa using e
    rw [List.map_cons, List.map_cons, lexB]
    by_cases q : ixC c = ixC d
    · rw [if_pos (by omega), lex_rk l m (a * 8 + ixC c) hl' hm' e']; simp [rk, q]
    · rw [if_neg (by omega)]
      by_cases q2 : ixC c < ixC d
      · have := rk_lt l m (a * 8 + ixC c) (a * 8 + ixC d) hl' hm' e' (by omega)
        rw [rk, rk]; exact decide_eq_decide.mpr (by omega)
      · have := rk_lt m l (a * 8 + ixC d) (a * 8 + ixC c) hm' hl' e'.symm (by omega)
        rw [rk, rk]; exact decide_eq_decide.mpr (by omega)
  | [], _ :: _, _, _, _, e => by simp at e
  | _ :: _, [], _, _, _, e => by simp at e
/-- a path comes ahead of another -/
def pre (l m : List Nat) : Bool := if (l.length : Int) = (m.length : Int) then lexB (l.map fun c => (ixC c : Int)) (m.map fun c => (ixC c : Int)) else decide ((l.length : Int) < (m.length : Int))
theorem pre_rk {l m : List Nat} (hl : IsP l) (hm : IsP m) : (if (l.length : Int) = (m.length : Int) then decide ((rk 0 l : Int) < (rk 0 m : Int)) else decide ((l.length : Int) < (m.length : Int))) = pre l m := by
  unfold pre
  by_cases e : (l.length : Int) = (m.length : Int)
  · rw [if_pos e, if_pos e, lex_rk l m 0 hl hm (by omega)]
    exact decide_eq_decide.mpr (by omega)
  · rw [if_neg e, if_neg e]
theorem xor_step : ∀ c ∈ stepC, ∃ d, Builtin.bitXor ((ixC c : Nat) : Int) 1 = ((d : Nat) : Int) ∧ stepC[d]? = some (sw c) := by
  intro c hc
  have h : ∀ c ∈ stepC, Builtin.bitXor ((ixC c : Nat) : Int) 1 = ((ixC (sw c) : Nat) : Int) ∧ stepC[ixC (sw c)]? = some (sw c) := by decide +kernel
  exact ⟨_, h c hc⟩
theorem inverse_step_ok {c : Nat} (h : c ∈ stepC) : m_law_inverse_step [tS [c]] = .ok (.t (tS [sw c])) [] := by
  obtain ⟨d, e1, e2⟩ := xor_step c h
  have e3 : O.index (.str (Str.ofString "aAbBcCdD")) [tS [c]] = some (.t (.int (ixC c : Nat))) := by rw [q_O_index_1, occ_step c h]; rfl
  have e4 : O.ix (.str (Str.ofString "aAbBcCdD")) (.int d) = some (.t (tS [sw c])) := by
    rw [q_O_ix_4, stepsS, S_cps, if_pos (by rw [S_len]; decide), atI_at e2]; rfl
  simp [m_law_inverse_step, b_law_inverse_step, -q_O_index_1, -q_O_index_2, e3, e1, -q_O_ix_4, e4]
theorem cutS_last (l : List Nat) (x : Nat) : cutS (S (l ++ [x])) none (some (-1)) = S l := cut_last l x
theorem lr_step {st : List Nat} {c : Nat} (h : IsP st) (hc : c ∈ stepC) (hl : st.length < 1000000) (a x : Dx.Slot) :
    S.foB bl_law_reduced_1 (G.name 2) (tS [c]) [a, .tr (tS st.reverse), x] = .ok .nx [a, .tr (tS (push st c).reverse), .tr (tS [c])] := by
  have i := inverse_step_ok hc
  cases st with
  | nil => simp [bl_law_reduced_1, push, lit0, S_inj_iff, S_len, S_app]
  | cons y st =>
    have e1 : (y :: st).reverse = st.reverse ++ [y] := List.reverse_cons
    have ix : atI (st.reverse ++ [y]) (-1) = some y := atI_last _ _
    have ln : st.length + 1 ≤ 16000000 := by simp at hl; omega
    have ln2 : st.length + 1 + 1 ≤ 16000000 := by simp at hl; omega
    rw [e1, push_cons]
    by_cases e : y = sw c
    · rw [if_pos e]
      subst e
      simp [bl_law_reduced_1, lit0, S_inj_iff, S_len, S_cps, ln, ix, i, cutS_last]
    · rw [if_neg e, List.reverse_cons, List.reverse_cons]
      simp [bl_law_reduced_1, lit0, S_inj_iff, S_len, S_cps, ln, ln2, ix, i, e, S_app]
theorem lr_for {a : Dx.Slot} : ∀ (l st : List Nat) (x : Dx.Slot), IsP l → IsP st → st.length + l.length < 1000000 →
    ∃ x', forR (S.foB bl_law_reduced_1 (G.name 2)) (l.map fun c => tS [c]) [a, .tr (tS st.reverse), x] = .ok .nx [a, .tr (tS (runP st l).reverse), x']
  | [], st, x, _, _, _ => ⟨x, rfl⟩
  | c :: l, st, x, hl, hs, hz => by
    have hc := hl c List.mem_cons_self
    have p1 : IsP (push st c) := fun y hy => by
      have := runP_mem (st := st) (l := [c]) (c := y) hy
      rcases this with h | h
      · exact hs y h
      · rw [List.mem_singleton.mp h]; exact hc
    have pl := push_len st c
    obtain ⟨x', e⟩ := lr_for (a := a) l (push st c) (.tr (tS [c])) (fun y hy => hl y (List.mem_cons_of_mem _ hy)) p1 (by simp at hz; omega)
    refine ⟨x', ?_⟩
    rw [List.map_cons, forR, lr_step hs hc (by simp at hz; omega)]
    exact e
theorem law_reduced_ok {l : List Nat} (h : IsP l) (hl : l.length ≤ 900000) : m_law_reduced [tS l] = .ok (.t (tS (red l))) [] := by
  obtain ⟨x, e⟩ := lr_for (a := .tr (tS l)) l [] .un h IsP.nil (by simp; omega)
  simp only [List.reverse_nil] at e
  have e : forR (S.foB bl_law_reduced_1 (G.name 2)) (l.map fun c => tS [c]) [.tr (tS l), .tr (.str (Str.ofString "")), .un] = .ok .nx [.tr (tS l), .tr (tS (red l)), x] := by rw [lit0]; exact e
  simp [m_law_reduced, b_law_reduced, S_cps, -forR, e]
theorem law_inverse_ok {l : List Nat} (h : IsP l) (hl : l.length ≤ 900000) : m_law_inverse [tS l] = .ok (.t (tS (inv l))) [] := by
  have e : (⟨l.reverse.toArray⟩ : Str) = S l.reverse := rfl
  have e2 : lcR [1] (G.name 1) T.yes ce_law_inverse_1 (l.reverse.map fun c => tS [c]) [.tr (tS l), .un] = .ok (l.reverse.map fun c => tS [sw c]) [.tr (tS l), .un] :=
    lcR_map l.reverse fun c hc => by simp [ce_law_inverse_1, inverse_step_ok (h c (List.mem_reverse.mp hc))]
  have e3 : (l.reverse.map fun c => tS [sw c]) = (inv l).map fun c => tS [c] := by unfold inv; rw [List.map_map]; rfl
  rw [e3] at e2
  have j := join_sg_ok (inv l) (by rw [inv_len]; omega)
  simp [m_law_inverse, b_law_inverse, S_len, S_cps, show l.length ≤ 16000000 by omega, -lcR, -List.map_reverse, -q_O_join_1, -q_O_join_2]
  first | rw [e] | skip
  simp only [List.map_reverse] at e2
  simp [S_cps, -lcR, e2, j, show l.length ≤ 16000000 by omega, -q_O_join_1, -q_O_join_2]
theorem cutD_ints (ns : List Int) (lo hi : Option Int) : ∃ ms : List Int, ms.length ≤ ns.length ∧ Dx.cutD (ns.map D.int) lo hi = ms.map D.int :=
  ⟨(ns.drop (HT.sIx (ns.map D.int).length 0 lo)).take _, Nat.le_trans (List.length_take_le' ..) (by rw [List.length_drop]; omega), by unfold Dx.cutD; rw [← List.map_drop, ← List.map_take]⟩
theorem at0_ints (ms : List Int) : ∃ c : Int, atI (ms.map D.int ++ [D.int 0]) 0 = some (.int c) := by
  cases ms with
  | nil => exact ⟨0, rfl⟩
  | cons m ms => exact ⟨m, atI_at (j := 0) rfl⟩
theorem pool_ok (ns : List Int) (h : ns.length ≤ 63) (k : Nat) (hk : k ≤ 100) : ∃ ds, Pool ds ∧ m_law_pool [.scr (ns.map D.int), .int k] = .ok (.f ds) [] := by
  obtain ⟨ms, lm, em⟩ := cutD_ints ns (some k) (some ((k : Int) + 1))
  obtain ⟨c, ec⟩ := at0_ints ms
  have k2 : (7919 : Int) * k ≤ 791900 := by omega
  have kk : (7919 : Int) * k * k ≤ 79190000 := by
    exact Int.le_trans (Int.mul_le_mul (a := 7919 * (k : Int)) (c := 791900) (b := (k : Int)) (d := 100) k2 (by omega) (by omega) (by omega)) (by decide)
  have kk0 : (0 : Int) ≤ 7919 * k * k := Int.mul_nonneg (by omega) (by omega)
  generalize hn : Max.max c (-1 - c) = n
  have n0 : 0 ≤ n := by omega
  have a0 := Int.emod_nonneg n (show (2147483629 : Int) ≠ 0 by decide)
  have a1 := Int.emod_lt_of_pos n (show (0 : Int) < 2147483629 by decide)
  generalize ha : n % 2147483629 = a at a0 a1
  generalize hp : (7919 : Int) * k * k = p at kk kk0
  have b0 := Int.emod_nonneg ((a + p + 31 * (k : Int) + 17) * 48271) (show (2147483647 : Int) ≠ 0 by decide)
  have b1 := Int.emod_lt_of_pos ((a + p + 31 * (k : Int) + 17) * 48271) (show (0 : Int) < 2147483647 by decide)
  generalize hb : (a + p + 31 * (k : Int) + 17) * 48271 % 2147483647 = b at b0 b1
  have d0 := Int.emod_nonneg (b * b) (show (2147483629 : Int) ≠ 0 by decide)
  have d1 := Int.emod_lt_of_pos (b * b) (show (0 : Int) < 2147483629 by decide)
  generalize hd : b * b % 2147483629 = d at d0 d1
  refine ⟨[.int (n * (if decide ((1000000000000000000 : Int) ≤ n) = true then 1 else 0)), .int d], ⟨_, d, rfl, ?_, d0, by omega⟩, ?_⟩
  · split <;> omega
  · have lt1 : (-18446744073709551616 : Int) < 7919 * k := by omega
    have lt2 : (7919 : Int) * k < 18446744073709551616 := by omega
    by_cases g : (1000000000000000000 : Int) ≤ n
    · simp [m_law_pool, b_law_pool, em, ec, hn, ha, hp, hb, hd, lm, Nat.le_trans (Nat.add_le_add_right lm 1), show ms.length + 1 ≤ 16000000 by omega, lt1, lt2, show (-18446744073709551616 : Int) < b by omega, show b < (18446744073709551616 : Int) by omega, g]
    · simp [m_law_pool, b_law_pool, em, ec, hn, ha, hp, hb, hd, lm, show ms.length + 1 ≤ 16000000 by omega, lt1, lt2, show (-18446744073709551616 : Int) < b by omega, show b < (18446744073709551616 : Int) by omega, g]
/-- data that can be shown: its weight, its depth -/
structure Shn (w k : Nat) (d : D) : Prop where
  pl : d.plainE = true
  sh : d.py.showable = true
  dp : d.py.depth ≤ k
  lf : PyData.leavesShort 30 d.py = true
  wt : d.py.weight ≤ w
theorem Shn.repr {w k : Nat} {d : D} (h : Shn w k d) (hw : w ≤ 400000) (hk : k ≤ 60) : O.repr [d] = some (.t (.str d.py.shown)) := by
  have fit : d.py.shown.length ≤ 16777216 := by
    rw [← sizeLine_eq]
    have h1 := PyData.shown_le 30 (by decide) d.py h.lf
    have h2 := h.wt
    rw [sizeLine_eq]
    have h3 : (30 + 2) * d.py.weight ≤ 32 * 400000 := Nat.mul_le_mul_left _ (by omega)
    omega
  have ok : O.shownOk d.py := by
    unfold O.shownOk
    simp [h.sh, fit, Nat.le_trans h.dp hk]
  rw [q_O_repr_1, if_pos ⟨h.pl, ok⟩]
  simp [ws, fit]
theorem Shn.str {l : List Nat} {w : Nat} (h : IsP l) (hl : l.length ≤ w) : Shn w 0 (tS l) := by
  refine ⟨rfl, rfl, Nat.le_refl _, ?_, ?_⟩
  · show PyData.leavesShort 30 (.str (S l)) = true
    rw [PyData.leavesShort, S_cps, List.all_eq_true]
    exact fun c hc => decide_eq_true (by have := sw_lt c (h c hc); omega)
  · show PyData.weight (.str (S l)) ≤ w
    rw [PyData.weight, ← Array.length_toList, S_cps]; exact hl
theorem Shn.seq {w k n : Nat} {ds : List D} (h : ∀ d ∈ ds, Shn w k d) (hn : ds.length ≤ n) :
    D.plainsE ds = true ∧ PyData.showableAll (D.pys ds) = true ∧ PyData.depthAll (D.pys ds) ≤ k ∧ PyData.leavesShortAll 30 (D.pys ds) = true ∧ PyData.weightAll (D.pys ds) ≤ n * (w + 1) := by
  induction ds generalizing n with
  | nil => exact ⟨rfl, rfl, Nat.zero_le _, rfl, Nat.zero_le _⟩
  | cons d ds ih =>
    have hd := h d List.mem_cons_self
    cases n with
    | zero => simp at hn
    | succ n =>
      obtain ⟨i1, i2, i4, i5, i6⟩ := ih (n := n) (fun x hx => h x (List.mem_cons_of_mem _ hx)) (by simp at hn; exact hn)
      refine ⟨by rw [D.plainsE, hd.pl, i1]; rfl, by rw [D.pys, PyData.showableAll, hd.sh, i2]; rfl, ?_, by rw [D.pys, PyData.leavesShortAll, hd.lf, i5]; rfl, ?_⟩
      · rw [D.pys, PyData.depthAll]; have := hd.dp; omega
      · rw [D.pys, PyData.weightAll, Nat.succ_mul]; have := hd.wt; omega
theorem Shn.lst {w k n : Nat} {ds : List D} (h : ∀ d ∈ ds, Shn w k d) (hn : ds.length ≤ n) : Shn (n * (w + 1) + 1) (k + 1) (.lst ds) := by
  obtain ⟨i1, i2, i4, i5, i6⟩ := Shn.seq h hn
  exact ⟨by rw [D.plainE]; exact i1, by rw [D.py, PyData.showable]; exact i2, by rw [D.py, PyData.depth]; omega, by rw [D.py, PyData.leavesShort]; exact i5, by rw [D.py, PyData.weight]; omega⟩
theorem Shn.tup {w k n : Nat} {ds : List D} (h : ∀ d ∈ ds, Shn w k d) (hn : ds.length ≤ n) : Shn (n * (w + 1) + 1) (k + 1) (.tup ds) := by
  obtain ⟨i1, i2, i4, i5, i6⟩ := Shn.seq h hn
  exact ⟨by rw [D.plainE]; exact i1, by rw [D.py, PyData.showable]; exact i2, by rw [D.py, PyData.depth]; omega, by rw [D.py, PyData.leavesShort]; exact i5, by rw [D.py, PyData.weight]; omega⟩
theorem small_ints : ∀ i : Fin 400, PyData.leavesShort 30 (.int ((i.val : Int) - 100)) = true ∧ (PyData.int ((i.val : Int) - 100)).showable = true ∧ PyData.weight (.int ((i.val : Int) - 100)) ≤ 12 := by decide +kernel
theorem Shn.int {i : Int} (h1 : -100 ≤ i) (h2 : i < 300) {w : Nat} (hw : 12 ≤ w) : Shn w 0 (.int i) := by
  have z := small_ints ⟨(i + 100).toNat, by omega⟩
  have e : (((i + 100).toNat : Nat) : Int) - 100 = i := by omega
  simp only [e] at z
  exact ⟨rfl, z.2.1, Nat.le_refl _, z.1, Nat.le_trans z.2.2 hw⟩
theorem Shn.mono {w k w' k' : Nat} {d : D} (h : Shn w k d) (hw : w ≤ w') (hk : k ≤ k') : Shn w' k' d := ⟨h.pl, h.sh, Nat.le_trans h.dp hk, h.lf, Nat.le_trans h.wt hw⟩

theorem Shn.non (w : Nat) (hw : 1 ≤ w) : Shn w 0 .non := ⟨rfl, rfl, Nat.le_refl _, by decide +kernel, Nat.le_trans (by decide +kernel) hw⟩
theorem Shn.bl (b : Bool) (w : Nat) (hw : 1 ≤ w) : Shn w 0 (.bl b) := ⟨rfl, rfl, Nat.le_refl _, by cases b <;> decide +kernel, Nat.le_trans (by cases b <;> decide +kernel) hw⟩
theorem Shn.dct0 (w : Nat) (hw : 1 ≤ w) : Shn w 1 (.dct []) := ⟨rfl, rfl, by decide +kernel, by decide +kernel, Nat.le_trans (by decide +kernel) hw⟩
theorem Shn.lit {z : Str} {w : Nat} (h : PyData.leavesShort 30 (.str z) = true) (hw : PyData.weight (.str z) ≤ w) : Shn w 0 (.str z) := ⟨rfl, rfl, Nat.le_refl _, h, hw⟩

theorem Shn.intL {i : Int} {w : Nat} (h : (PyData.leavesShort 30 (.int i) && (PyData.int i).showable) = true) (hw : PyData.weight (.int i) ≤ w) : Shn w 0 (.int i) := by
  rw [Bool.and_eq_true] at h
  exact ⟨rfl, h.2, Nat.le_refl _, h.1, hw⟩
/-- what a line of a derivation is: number n, m generators -/
def lnB (n m : Int) : D → Bool
  | .tup [.str w, .int i] => decide (0 ≤ i) && ((decide (w = Str.ofString "generator") && decide (i < m)) || (decide (w = Str.ofString "inverse") && decide (i < n)))
  | .tup [.str w, .int i, .int j] => (decide (0 ≤ i) && decide (0 ≤ j)) && (decide (w = Str.ofString "product") && (decide (i < n) && decide (j < n)))
  | _ => false
theorem wd1 : (Str.ofString "generator" = Str.ofString "inverse") = False := by simp; decide +kernel
theorem wd2 : (Str.ofString "generator" = Str.ofString "product") = False := by simp; decide +kernel
theorem wd3 : (Str.ofString "inverse" = Str.ofString "product") = False := by simp; decide +kernel
theorem isS_of {d : D} (h : d.tyc = some .str) : ∃ s, d = .str s := by cases d <;> first | exact ⟨_, rfl⟩ | cases h
theorem in_23 (k : Int) : inV (.int k) [.int 2, .int 3] = (decide (k = 2) || decide (k = 3)) := by
  have e1 : ∀ j : Int, eqV (.int j) (.int k) = decide (k = j) := fun j => by
    by_cases h : k = j
    · subst h; simp [eqV]
    · rw [decide_eq_false h]; simp [eqV]; exact fun e => h e.symm
  simp [inV, e1]
/-- an int from 0 on -/
def nnB : D → Bool
  | .int i => decide (0 ≤ i)
  | _ => false
theorem nn_not {d : D} (h : isI d = false) : nnB d = false := by cases d <;> first | rfl | cases h
theorem idx_ok (xs : List D) (h : ∀ x ∈ xs, okT x) (a b c e : Dx.Slot) : lcR [5] (G.name 5) T.yes ce_is_line_1 xs [a, b, c, e, .tr (.lst xs), .un] = .ok ((xs.map nnB).map D.bl) [a, b, c, e, .tr (.lst xs), .un] := by
  have := lcR_map (vs := [5]) (g := G.name 5) (t := T.yes) (e := ce_is_line_1) (ρ := [a, b, c, e, .tr (.lst xs), .un]) (f := fun d : D => d) (h := fun x => D.bl (nnB x)) xs (fun x hx => by
    have ix := is_integer_ok (h x hx)
    cases ex : isI x with
    | true =>
      obtain ⟨i, rfl⟩ := isI_of ex
      rw [ex] at ix
      simp [ce_is_line_1, ix, nnB]
    | false =>
      rw [ex] at ix
      simp [ce_is_line_1, ix, nn_not ex])
  rw [List.map_id'] at this
  rw [this, List.map_map]; rfl
theorem is_line_ok {d : D} (h : okF d) (n m : Int) : m_is_line [d, .int n, .int m] = .ok (.t (.bl (lnB n m d))) [] := by
  obtain ⟨⟨t, ht⟩, hx⟩ := h
  by_cases tt : t = .tup
  · obtain ⟨ds, rfl⟩ : ∃ ds, d = .tup ds := by subst tt; cases d <;> first | exact ⟨_, rfl⟩ | simp at ht
    have hx := hx ds rfl
    match ds, hx with
    | [], _ => simp [m_is_line, b_is_line, in_23, lnB]
    | [x], _ => simp [m_is_line, b_is_line, in_23, lnB]
    | x :: y :: z :: v :: r, _ => simp [m_is_line, b_is_line, in_23, lnB, show ¬ ((r.length : Int) + 1 + 1 + 1 + 1 = 2) by omega, show ¬ ((r.length : Int) + 1 + 1 + 1 + 1 = 3) by omega]
    | [x, y], hx =>
      have a0 : atI [x, y] 0 = some x := atI_at (j := 0) rfl
      obtain ⟨tx, hx1⟩ := hx x (by simp)
      have e := idx_ok [y] (fun z hz => hx z (by simp at hz; simp [hz])) (.tr (.tup [x, y])) (.tr (.int n)) (.tr (.int m)) (.tr x)
      by_cases sx : tx = .str
      · subst sx
        obtain ⟨s, rfl⟩ := isS_of hx1
        cases ey : isI y with
        | true =>
          obtain ⟨i, rfl⟩ := isI_of ey
          have ai : atI [D.int i] 0 = some (.int i) := rfl
          by_cases i0 : 0 ≤ i
          · by_cases s1 : s = Str.ofString "generator"
            · subst s1; simp [m_is_line, b_is_line, in_23, lnB, nnB, a0, e, -lcR, i0, ai, wd1, show ¬ i < 0 by omega]
            · by_cases s2 : s = Str.ofString "inverse"
              · subst s2; simp [m_is_line, b_is_line, in_23, lnB, nnB, a0, e, -lcR, i0, ai, s1, show ¬ i < 0 by omega]
              · simp [m_is_line, b_is_line, in_23, lnB, nnB, a0, e, -lcR, i0, ai, s1, s2, show ¬ i < 0 by omega]
          · simp [m_is_line, b_is_line, in_23, lnB, nnB, a0, e, -lcR, i0, show i < 0 by omega]
        | false =>
          have : lnB n m (.tup [.str s, y]) = false := by cases y <;> first | rfl | cases ey
          simp [m_is_line, b_is_line, in_23, a0, e, -lcR, nn_not ey, this]
      · have : lnB n m (.tup [x, y]) = false := by cases x <;> first | rfl | (simp at hx1; exact absurd hx1.symm sx)
        simp [m_is_line, b_is_line, in_23, this, a0, hx1, sx]
    | [x, y, z], hx =>
      have a0 : atI [x, y, z] 0 = some x := atI_at (j := 0) rfl
      obtain ⟨tx, hx1⟩ := hx x (by simp)
      have e := idx_ok [y, z] (fun v hv => hx v (by simp at hv; rcases hv with rfl | rfl <;> simp)) (.tr (.tup [x, y, z])) (.tr (.int n)) (.tr (.int m)) (.tr x)
      by_cases sx : tx = .str
      · subst sx
        obtain ⟨s, rfl⟩ := isS_of hx1
        cases ey : isI y with
        | true =>
          obtain ⟨i, rfl⟩ := isI_of ey
          cases ez : isI z with
          | true =>
            obtain ⟨j, rfl⟩ := isI_of ez
            have ai : atI [D.int i, .int j] 0 = some (.int i) := rfl
            by_cases i0 : 0 ≤ i
            · by_cases j0 : 0 ≤ j
              · by_cases s1 : s = Str.ofString "generator"
                · subst s1; simp [m_is_line, b_is_line, in_23, lnB, nnB, a0, e, -lcR, i0, j0, ai, wd2, show ¬ i < 0 by omega, show ¬ j < 0 by omega]
                · by_cases s2 : s = Str.ofString "inverse"
                  · subst s2; simp [m_is_line, b_is_line, in_23, lnB, nnB, a0, e, -lcR, i0, j0, ai, s1, wd3, show ¬ i < 0 by omega, show ¬ j < 0 by omega]
                  · have mx : decide (Max.max i j < n) = (decide (i < n) && decide (j < n)) := by
                      by_cases z1 : i < n <;> by_cases z2 : j < n <;> simp [z1, z2] <;> omega
                    by_cases s3 : s = Str.ofString "product"
                    · subst s3; simp [m_is_line, b_is_line, in_23, lnB, nnB, a0, e, -lcR, i0, j0, ai, s1, s2, mx, show ¬ i < 0 by omega, show ¬ j < 0 by omega]
                    · simp [m_is_line, b_is_line, in_23, lnB, nnB, a0, e, -lcR, i0, j0, ai, s1, s2, s3, mx, show ¬ i < 0 by omega, show ¬ j < 0 by omega]
              · simp [m_is_line, b_is_line, in_23, lnB, nnB, a0, e, -lcR, i0, j0, show j < 0 by omega, show ¬ i < 0 by omega]
            · simp [m_is_line, b_is_line, in_23, lnB, nnB, a0, e, -lcR, i0, show i < 0 by omega]
          | false =>
            have : lnB n m (.tup [.str s, .int i, z]) = false := by cases z <;> first | rfl | cases ez
            simp [m_is_line, b_is_line, in_23, a0, e, -lcR, nn_not ez, this]
        | false =>
          have : lnB n m (.tup [.str s, y, z]) = false := by cases y <;> first | rfl | cases ey
          simp [m_is_line, b_is_line, in_23, a0, e, -lcR, nn_not ey, this]
      · have : lnB n m (.tup [x, y, z]) = false := by cases x <;> first | rfl | (simp at hx1; exact absurd hx1.symm sx)
        simp [m_is_line, b_is_line, in_23, this, a0, hx1, sx]
  · have : lnB n m d = false := by cases d <;> first | rfl | (simp at ht; exact absurd ht.symm tt)
    simp [m_is_line, b_is_line, ht, tt, this]

theorem is_number_ok {d : D} (h : okT d) (n : Int) : m_law_is_number [d, .int n] = .ok (.t (.bl (nnB d && match d with | .int i => decide (i < n) | _ => false))) [] := by
  obtain ⟨t, h⟩ := h
  cases d with
  | int i => by_cases i0 : 0 ≤ i <;> simp [m_law_is_number, b_law_is_number, nnB, i0]
  | _ => simp at h <;> subst h <;> simp [m_law_is_number, b_law_is_number, nnB]
theorem law_is_line_ok {d : D} (h : okF d) (n m : Int) : m_law_is_line [d, .int n, .int m] = .ok (.t (.bl (lnB n m d))) [] := by
  obtain ⟨⟨t, ht⟩, hx⟩ := h
  by_cases tt : t = .tup
  · obtain ⟨ds, rfl⟩ : ∃ ds, d = .tup ds := by subst tt; cases d <;> first | exact ⟨_, rfl⟩ | simp at ht
    have hx := hx ds rfl
    match ds, hx with
    | [], _ => simp [m_law_is_line, b_law_is_line, lnB]
    | x :: r, hx =>
      have a0 : atI (x :: r) 0 = some x := atI_at (j := 0) rfl
      obtain ⟨tx, hx1⟩ := hx x (by simp)
      by_cases sx : tx = .str
      · subst sx
        obtain ⟨s, rfl⟩ := isS_of hx1
        by_cases s1 : s = Str.ofString "generator"
        · subst s1
          match r, hx with
          | [], _ => simp [m_law_is_line, b_law_is_line, a0, lnB]
          | [y], hx =>
            have a1 : atI [D.str (Str.ofString "generator"), y] 1 = some y := atI_at (j := 1) rfl
            have ey := is_number_ok (hx y (by simp)) m
            cases y <;> simp [m_law_is_line, b_law_is_line, a0, a1, ey, lnB, nnB, wd1]
          | y :: z :: r, hx =>
            have : lnB n m (.tup (D.str (Str.ofString "generator") :: y :: z :: r)) = false := by
              cases r with
              | nil => cases y <;> cases z <;> simp [lnB, wd2]
              | cons _ _ => simp [lnB]
            simp [m_law_is_line, b_law_is_line, a0, this, show ¬ ((r.length : Int) + 1 + 1 + 1 = 2) by omega]
        · by_cases s2 : s = Str.ofString "inverse"
          · subst s2
            match r, hx with
            | [], _ => simp [m_law_is_line, b_law_is_line, a0, lnB, s1]
            | [y], hx =>
              have a1 : atI [D.str (Str.ofString "inverse"), y] 1 = some y := atI_at (j := 1) rfl
              have ey := is_number_ok (hx y (by simp)) n
              cases y <;> simp [m_law_is_line, b_law_is_line, a0, a1, ey, lnB, nnB, s1]
            | y :: z :: r, hx =>
              have : lnB n m (.tup (D.str (Str.ofString "inverse") :: y :: z :: r)) = false := by
                cases r with
                | nil => cases y <;> cases z <;> simp [lnB, wd3]
                | cons _ _ => simp [lnB]
              simp [m_law_is_line, b_law_is_line, a0, s1, this, show ¬ ((r.length : Int) + 1 + 1 + 1 = 2) by omega]
          · by_cases s3 : s = Str.ofString "product"
            · subst s3
              match r, hx with
              | [], _ => simp [m_law_is_line, b_law_is_line, a0, lnB, s1, s2]
              | [y], hx =>
                have : lnB n m (.tup [D.str (Str.ofString "product"), y]) = false := by cases y <;> simp [lnB, s1, s2]
                simp [m_law_is_line, b_law_is_line, a0, this, s1, s2]
              | [y, z], hx =>
                have a1 : atI [D.str (Str.ofString "product"), y, z] 1 = some y := atI_at (j := 1) rfl
                have a2 : atI [D.str (Str.ofString "product"), y, z] 2 = some z := atI_at (j := 2) rfl
                have ey := is_number_ok (hx y (by simp)) n
                have ez := is_number_ok (hx z (by simp)) n
                cases y with
                | int i =>
                  cases z with
                  | int j => by_cases i0 : 0 ≤ i <;> by_cases i1 : i < n <;> simp [m_law_is_line, b_law_is_line, a0, a1, a2, ey, ez, lnB, nnB, s1, s2, i0, i1]
                  | _ => by_cases i0 : 0 ≤ i <;> by_cases i1 : i < n <;> simp [m_law_is_line, b_law_is_line, a0, a1, a2, ey, ez, lnB, nnB, s1, s2, i0, i1]
                | _ => simp [m_law_is_line, b_law_is_line, a0, a1, a2, ey, ez, lnB, nnB, s1, s2]
              | y :: z :: v :: r, hx =>
                simp [m_law_is_line, b_law_is_line, a0, lnB, s1, s2, show ¬ ((r.length : Int) + 1 + 1 + 1 + 1 = 3) by omega]
            · have : lnB n m (.tup (D.str s :: r)) = false := by
                match r with
                | [] => rfl
                | [y] => cases y <;> simp [lnB, s1, s2]
                | [y, z] => cases y <;> cases z <;> simp [lnB, s3]
                | y :: z :: v :: r => simp [lnB]
              simp [m_law_is_line, b_law_is_line, a0, this, s1, s2, s3]
      · have : lnB n m (.tup (x :: r)) = false := by
          cases x <;> first | rfl | (simp at hx1; exact absurd hx1.symm sx) | (match r with | [] => rfl | [y] => rfl | [y, z] => rfl | y :: z :: v :: r => rfl)
        simp [m_law_is_line, b_law_is_line, this, a0, hx1, sx]
  · have : lnB n m d = false := by cases d <;> first | rfl | (simp at ht; exact absurd ht.symm tt)
    simp [m_law_is_line, b_law_is_line, ht, tt, this]
theorem wd4 : (Str.ofString "inverse" = Str.ofString "generator") = False := by simp; decide +kernel
theorem wd5 : (Str.ofString "product" = Str.ofString "generator") = False := by simp; decide +kernel
theorem wd6 : (Str.ofString "product" = Str.ofString "inverse") = False := by simp; decide +kernel
/-- the value of a line, behind the values vs -/
def valD (ps vs : List (List Nat)) : D → List Nat
  | .tup [.str w, .int i] => if w = Str.ofString "generator" then ps.getD i.toNat [] else inv (vs.getD i.toNat [])
  | .tup [.str _, .int i, .int j] => red (vs.getD i.toNat [] ++ vs.getD j.toNat [])
  | _ => []
def runV (ps : List (List Nat)) : List (List Nat) → List D → Option (List (List Nat))
  | vs, [] => some vs
  | vs, d :: ds => if lnB vs.length ps.length d = true ∧ (valD ps vs d).length ≤ 1000 then runV ps (vs ++ [valD ps vs d]) ds else none
theorem ln_form {n m : Int} {d : D} (h : lnB n m d = true) : (∃ i : Nat, d = .tup [.str (Str.ofString "generator"), .int i] ∧ (i : Int) < m) ∨ (∃ i : Nat, d = .tup [.str (Str.ofString "inverse"), .int i] ∧ (i : Int) < n) ∨
    ∃ i j : Nat, d = .tup [.str (Str.ofString "product"), .int i, .int j] ∧ (i : Int) < n ∧ (j : Int) < n := by
  unfold lnB at h
  split at h
  · rename_i w i
    simp only [Bool.and_eq_true, Bool.or_eq_true, decide_eq_true_eq] at h
    obtain ⟨i0, ⟨rfl, h⟩ | ⟨rfl, h⟩⟩ := h
    · exact .inl ⟨i.toNat, by rw [Int.toNat_of_nonneg i0], by omega⟩
    · exact .inr (.inl ⟨i.toNat, by rw [Int.toNat_of_nonneg i0], by omega⟩)
  · rename_i w i j
    simp only [Bool.and_eq_true, Bool.or_eq_true, decide_eq_true_eq] at h
    obtain ⟨⟨i0, j0⟩, rfl, h1, h2⟩ := h
    exact .inr (.inr ⟨i.toNat, j.toNat, by rw [Int.toNat_of_nonneg i0, Int.toNat_of_nonneg j0], by omega, by omega⟩)
  · cases h
def VOk (k : Nat) (vs : List (List Nat)) : Prop := ∀ v ∈ vs, IsP v ∧ v.length ≤ k
theorem VOk.getD {k : Nat} {vs : List (List Nat)} (h : VOk k vs) (i : Nat) : IsP (vs.getD i []) ∧ (vs.getD i []).length ≤ k := by
  rw [List.getD_eq_getElem?_getD]
  cases e : vs[i]? with
  | none => exact ⟨IsP.nil, Nat.zero_le _⟩
  | some v => exact h v (List.mem_of_getElem? e)
theorem VOk.val {ps vs : List (List Nat)} (hp : VOk 60 ps) (hv : VOk 1000 vs) (d : D) : IsP (valD ps vs d) ∧ (valD ps vs d).length ≤ 2000 := by
  unfold valD
  split
  · split
    · exact ⟨(hp.getD _).1, by have := (hp.getD (Int.toNat ‹_›)).2; omega⟩
    · exact ⟨(hv.getD _).1.inv, by rw [inv_len]; have := (hv.getD (Int.toNat ‹_›)).2; omega⟩
  · rename_i i j
    refine ⟨((hv.getD _).1.app (hv.getD _).1).red, Nat.le_trans (red_len _) ?_⟩
    rw [List.length_append]
    have := (hv.getD i.toNat).2
    have := (hv.getD j.toNat).2
    omega
  · exact ⟨IsP.nil, by simp⟩
theorem VOk.snoc {k : Nat} {vs : List (List Nat)} {v : List Nat} (h : VOk k vs) (hv : IsP v ∧ v.length ≤ k) : VOk k (vs ++ [v]) := fun w hw => by
  rcases List.mem_append.mp hw with hw | hw
  · exact h w hw
  · rw [List.mem_singleton.mp hw]; exact hv
theorem at_tS {vs : List (List Nat)} {i : Nat} (h : i < vs.length) : atI (vs.map tS) (i : Int) = some (tS (vs.getD i [])) := atI_at (by rw [List.getElem?_map, List.getD_eq_getElem?_getD, List.getElem?_eq_getElem h]; rfl)
theorem red2_ok {a b : List Nat} (ha : IsP a) (hb : IsP b) (h : a.length + b.length ≤ 1000000) : m_reduce_all [.lst [.str (S a), .str (S b)]] = .ok (.t (tS (red (a ++ b)))) [] := by
  have := reduce_all_ok [a, b] (fun l hl => by simp at hl; rcases hl with rfl | rfl <;> assumption) (by simp; omega)
  simpa using this
abbrev Gln : GM := G.tup 2 (G.cons (G.name 3) (G.cons (G.name 4) G.nil))
theorem lv_step {ps vs : List (List Nat)} (hp : VOk 60 ps) (hv : VOk 1000 vs) (hz : vs.length < 60000) {d : D} (hd : okF d) (b x3 x4 x5 x6 x7 : Dx.Slot) :
    if lnB vs.length ps.length d = true ∧ (valD ps vs d).length ≤ 1000 then ∃ y5 y6 y7, S.foB bl_line_values_1 Gln (.tup [.int (vs.length : Nat), d]) [.tr (.lst (ps.map tS)), b, .ol false (vs.map tS), x3, x4, x5, x6, x7] = .ok .nx [.tr (.lst (ps.map tS)), b, .ol false ((vs ++ [valD ps vs d]).map tS), .tr (.int (vs.length : Nat)), .tr d, y5, y6, y7]
    else ∃ ρ, S.foB bl_line_values_1 Gln (.tup [.int (vs.length : Nat), d]) [.tr (.lst (ps.map tS)), b, .ol false (vs.map tS), x3, x4, x5, x6, x7] = .ok (.rt (.t .non)) ρ := by
  have e := is_line_ok hd vs.length ps.length
  cases q : lnB vs.length ps.length d with
  | false =>
    rw [q] at e
    rw [if_neg (by simp)]
    exact ⟨_, by simp [bl_line_values_1, e]; rfl⟩
  | true =>
    rw [q] at e
    obtain ⟨w1, w2⟩ := hp.val hv d
    have la : atI (vs.map tS ++ [tS (valD ps vs d)]) (-1) = some (tS (valD ps vs d)) := atI_last _ _
    rcases ln_form q with ⟨i, rfl, hi⟩ | ⟨i, rfl, hi⟩ | ⟨i, j, rfl, hi, hj⟩
    · have ea := at_tS (vs := ps) (i := i) (by omega)
      have ev : valD ps vs (.tup [.str (Str.ofString "generator"), .int i]) = ps.getD i [] := by simp [valD]
      rw [ev] at w1 w2 la ⊢
      generalize ps.getD i [] = w at *
      by_cases l : w.length ≤ 1000
      · rw [if_pos ⟨rfl, l⟩]
        exact ⟨_, _, _, by simp [bl_line_values_1, e, ea, la, S_len, show w.length ≤ 16000000 by omega, show vs.length < 16000000 by omega, show ¬ (1000 : Int) < w.length by omega, show ¬ 1000 < w.length by omega]; exact ⟨rfl, rfl, rfl⟩⟩
      · rw [if_neg (by simp [l])]
        exact ⟨_, by simp [bl_line_values_1, e, ea, la, S_len, show vs.length < 16000000 by omega, show w.length ≤ 16000000 by omega, show (1000 : Int) < w.length by omega, show 1000 < w.length by omega]; rfl⟩
    · have ea := at_tS (vs := vs) (i := i) (by omega)
      have ev : valD ps vs (.tup [.str (Str.ofString "inverse"), .int i]) = inv (vs.getD i []) := by simp [valD, wd4]
      have ei := inverted_ok (hv.getD i).1 (by have := (hv.getD i).2; omega)
      rw [ev] at w1 w2 la ⊢
      generalize vs.getD i [] = w0 at *
      generalize inv w0 = w at *
      by_cases l : w.length ≤ 1000
      · rw [if_pos ⟨rfl, l⟩]
        exact ⟨_, _, _, by simp [bl_line_values_1, e, ea, ei, la, wd4, S_len, show w.length ≤ 16000000 by omega, show vs.length < 16000000 by omega, show ¬ (1000 : Int) < w.length by omega, show ¬ 1000 < w.length by omega]; exact ⟨rfl, rfl, rfl⟩⟩
      · rw [if_neg (by simp [l])]
        exact ⟨_, by simp [bl_line_values_1, e, ea, ei, la, wd4, S_len, show vs.length < 16000000 by omega, show w.length ≤ 16000000 by omega, show (1000 : Int) < w.length by omega, show 1000 < w.length by omega]; rfl⟩
    · have ea := at_tS (vs := vs) (i := i) (by omega)
      have eb := at_tS (vs := vs) (i := j) (by omega)
      have ei := red2_ok (hv.getD i).1 (hv.getD j).1 (by have := (hv.getD i).2; have := (hv.getD j).2; omega)
      have ev : valD ps vs (.tup [.str (Str.ofString "product"), .int i, .int j]) = red (vs.getD i [] ++ vs.getD j []) := rfl
      have a0 : atI [D.int (j : Int)] 0 = some (.int j) := rfl
      rw [ev] at w1 w2 la ⊢
      generalize vs.getD i [] = wi at *
      generalize vs.getD j [] = wj at *
      generalize red (wi ++ wj) = w at *
      by_cases l : w.length ≤ 1000
      · rw [if_pos ⟨rfl, l⟩]
        exact ⟨_, _, _, by simp [bl_line_values_1, e, ea, eb, a0, ei, la, wd5, wd6, S_len, show w.length ≤ 16000000 by omega, show vs.length < 16000000 by omega, show ¬ (1000 : Int) < w.length by omega, show ¬ 1000 < w.length by omega]; exact ⟨rfl, rfl, rfl⟩⟩
      · rw [if_neg (by simp [l])]
        exact ⟨_, by simp [bl_line_values_1, e, ea, eb, a0, ei, la, wd5, wd6, S_len, show vs.length < 16000000 by omega, show w.length ≤ 16000000 by omega, show (1000 : Int) < w.length by omega, show 1000 < w.length by omega]; rfl⟩

/-- an enumeration from n on -/
def enF (n : Nat) (ds : List D) : List D := (ds.zipIdx n).map fun p => .tup [.int (p.2 : Nat), p.1]
theorem enF_cons (n : Nat) (d : D) (ds : List D) : enF n (d :: ds) = .tup [.int (n : Nat), d] :: enF (n + 1) ds := rfl
theorem enD_enF (ds : List D) : I.enD ds = enF 0 ds := rfl
theorem lv_for {ps : List (List Nat)} (hp : VOk 60 ps) (b : Dx.Slot) : ∀ (ds : List D) (vs : List (List Nat)) (x3 x4 x5 x6 x7 : Dx.Slot), (∀ d ∈ ds, okF d) → VOk 1000 vs → vs.length + ds.length ≤ 60000 →
    match runV ps vs ds with
    | some ws => VOk 1000 ws ∧ ws.length = vs.length + ds.length ∧ ∃ y3 y4 y5 y6 y7, forR (S.foB bl_line_values_1 Gln) (enF vs.length ds) [.tr (.lst (ps.map tS)), b, .ol false (vs.map tS), x3, x4, x5, x6, x7] = .ok .nx [.tr (.lst (ps.map tS)), b, .ol false (ws.map tS), y3, y4, y5, y6, y7]
    | none => ∃ ρ, forR (S.foB bl_line_values_1 Gln) (enF vs.length ds) [.tr (.lst (ps.map tS)), b, .ol false (vs.map tS), x3, x4, x5, x6, x7] = .ok (.rt (.t .non)) ρ
  | [], vs, x3, x4, x5, x6, x7, _, hv, _ => ⟨hv, rfl, x3, x4, x5, x6, x7, rfl⟩
  | d :: ds, vs, x3, x4, x5, x6, x7, hd, hv, hz => by
    rw [List.length_cons] at hz
    have st := lv_step hp hv (by omega) (hd d List.mem_cons_self) b x3 x4 x5 x6 x7
    rw [runV, enF_cons]
    by_cases c : lnB vs.length ps.length d = true ∧ (valD ps vs d).length ≤ 1000
    · rw [if_pos c] at st ⊢
      obtain ⟨y5, y6, y7, st⟩ := st
      have hv2 := hv.snoc ⟨(hp.val hv d).1, c.2⟩
      have ih := lv_for hp b ds (vs ++ [valD ps vs d]) (.tr (.int (vs.length : Nat))) (.tr d) y5 y6 y7 (fun x hx => hd x (List.mem_cons_of_mem _ hx)) hv2 (by simp; omega)
      have le : (vs ++ [valD ps vs d]).length = vs.length + 1 := by simp
      cases q : runV ps (vs ++ [valD ps vs d]) ds with
      | some ws =>
        rw [q] at ih
        rw [le] at ih
        obtain ⟨h1, h2, z3, z4, z5, z6, z7, h3⟩ := ih
        refine ⟨h1, by rw [List.length_cons]; omega, z3, z4, z5, z6, z7, ?_⟩
        rw [forR, st]
        exact h3
      | none =>
        rw [q] at ih
        rw [le] at ih
        obtain ⟨ρ, h3⟩ := ih
        refine ⟨ρ, ?_⟩
        rw [forR, st]
        exact h3
    · rw [if_neg c] at st ⊢
      obtain ⟨ρ, st⟩ := st
      refine ⟨ρ, ?_⟩
      rw [forR, st]
      rfl
/-- what line_values gives -/
def lvO : Option (List (List Nat)) → W
  | some ws => .f (ws.map tS)
  | none => .t .non
def lvW (ps : List (List Nat)) : D → W
  | .lst ds => if ds.length ≤ 60000 then lvO (runV ps [] ds) else .t .non
  | _ => .t .non
def okDv (d : D) : Prop := okT d ∧ (∀ ds, d ≠ .scr ds) ∧ ∀ ds, d = .lst ds → ds.length ≤ 1000000 ∧ ∀ x ∈ ds, okF x
theorem line_values_ok {ps : List (List Nat)} (hp : VOk 60 ps) {d : D} (h : okDv d) : m_line_values [.lst (ps.map tS), d] = .ok (lvW ps d) [] := by
  obtain ⟨⟨t, ht⟩, ns, hd⟩ := h
  by_cases tt : t = .lst
  · by_cases sc : ∃ ds, d = .lst ds
    · obtain ⟨ds, rfl⟩ := sc
      obtain ⟨hdl, hd⟩ := hd ds rfl
      by_cases g : ds.length ≤ 60000
      · have e := lv_for hp (.tr (.lst ds)) ds [] .un .un .un .un .un hd (fun _ h => by cases h) (by simpa using g)
        rw [lvW, if_pos g]
        cases q : runV ps [] ds with
        | some ws =>
          rw [q] at e
          obtain ⟨h1, h2, y3, y4, y5, y6, y7, e⟩ := e
          simp only [List.map_nil, List.length_nil] at e
          rw [← enD_enF] at e
          simp [m_line_values, b_line_values, show ds.length ≤ 16000000 by omega, show ¬ (60000 : Int) < ds.length by omega, show ¬ 60000 < ds.length by omega, e, -forR, lvO]
        | none =>
          rw [q] at e
          obtain ⟨ρ, e⟩ := e
          simp only [List.map_nil, List.length_nil] at e
          rw [← enD_enF] at e
          simp [m_line_values, b_line_values, show ds.length ≤ 16000000 by omega, show ¬ (60000 : Int) < ds.length by omega, show ¬ 60000 < ds.length by omega, e, -forR, lvO]
      · rw [lvW, if_neg g]
        simp [m_line_values, b_line_values, show ds.length ≤ 16000000 by omega, show (60000 : Int) < ds.length by omega, show 60000 < ds.length by omega]
    · exfalso; subst tt; cases d <;> first | (cases ht; done) | exact sc ⟨_, rfl⟩ | exact ns _ rfl
  · have : lvW ps d = .t .non := by cases d <;> first | rfl | (simp at ht; exact absurd ht.symm tt)
    simp [m_line_values, b_line_values, ht, tt, this]

/-- what a derivation is worth: its last value -/
def lastV (ws : List (List Nat)) : List Nat := (([] :: ws).getLast (by simp))
def drv (ps : List (List Nat)) (l : List Nat) : D → Bool
  | .lst ds => decide (ds.length ≤ 60000) && (match runV ps [] ds with | some ws => decide (lastV ws = l) | none => false)
  | _ => false
theorem last_at (ws : List (List Nat)) : atI (tS [] :: ws.map tS) (-1) = some (tS (lastV ws)) := by
  unfold lastV
  rcases List.eq_nil_or_concat ws with rfl | ⟨r, x, rfl⟩
  · rfl
  · have : tS [] :: (r.concat x).map tS = (tS [] :: r.map tS) ++ [tS x] := by simp
    rw [this, atI_last]
    simp [List.getLast_cons]
theorem runV_len {ps : List (List Nat)} : ∀ {ds : List D} {vs ws : List (List Nat)}, runV ps vs ds = some ws → ws.length = vs.length + ds.length
  | [], vs, ws, h => by cases h; rfl
  | d :: ds, vs, ws, h => by
    rw [runV] at h
    split at h
    · rw [runV_len h]; simp; omega
    · cases h
theorem derives_ok {ps : List (List Nat)} (hp : VOk 60 ps) (l : List Nat) {d : D} (h : okDv d) : m_derives [.lst (ps.map tS), tS l, d] = .ok (.t (.bl (drv ps l d))) [] := by
  have e := line_values_ok hp h
  have no : lvW ps d = .t .non → drv ps l d = false → m_derives [.lst (ps.map tS), tS l, d] = .ok (.t (.bl (drv ps l d))) [] := fun e2 e3 => by
    rw [e2] at e
    simp [m_derives, b_derives, e, e3]
  cases d with
  | lst ds =>
    by_cases g : ds.length ≤ 60000
    · rw [lvW, if_pos g] at e no
      cases q : runV ps [] ds with
      | none => exact no (by rw [q]; rfl) (by simp [drv, q])
      | some ws =>
        rw [q] at e
        have e : m_line_values [.lst (ps.map tS), .lst ds] = .ok (.f (ws.map tS)) [] := e
        have ln := runV_len q
        simp at ln
        have la := last_at ws
        simp [m_derives, b_derives, e, lit0, la, drv, q, g, S_inj_iff, show 1 + ws.length ≤ 16000000 by omega, show ws.length ≤ 15999999 by omega, show 1 + ds.length ≤ 16000000 by omega, ln]
    · rw [lvW, if_neg g] at no
      exact no rfl (by simp [drv, g])
  | _ => exact no rfl rfl
theorem check_derivation_ok (b : Bool) {ls : List (List Nat)} (hp : ∀ l ∈ ls, IsP l ∧ l.length ≤ 400 ∧ (red l).length ≤ 60) (hz : ls.length ≤ 16) {l : List Nat} (hl : IsP l) (hy : l.length ≤ 400) {d : D} (h : okDv d) :
    m_check_derivation [seqD b (ls.map tS), tS l, d] = .ok (.t (.bl (drv (ls.map red) (red l) d))) [] := by
  have e1 := reduced_generators_ok b hp hz
  have e2 := reduced_ok hl hy
  have P : VOk 60 (ls.map red) := fun k hk => by
    obtain ⟨m, hm, rfl⟩ := List.mem_map.mp hk
    exact ⟨(hp m hm).1.red, (hp m hm).2.2⟩
  have e3 := derives_ok P (red l) h
  simp [m_check_derivation, b_check_derivation, e1, e2, e3, -List.map_map]
theorem at_tS1 {vs : List (List Nat)} {i : Nat} (h : i < vs.length) : atI (tS [] :: vs.map tS) ((i : Int) + 1) = some (tS (vs.getD i [])) := by
  have : atI (tS [] :: vs.map tS) (((i + 1 : Nat)) : Int) = some (tS (vs.getD i [])) := atI_at (by rw [List.getElem?_cons_succ, List.getElem?_map, List.getD_eq_getElem?_getD, List.getElem?_eq_getElem h]; rfl)
  exact this
theorem getD_red {ls : List (List Nat)} (i : Nat) : (ls.map red).getD i [] = red (ls.getD i []) := by
  rw [List.getD_eq_getElem?_getD, List.getD_eq_getElem?_getD, List.getElem?_map]
  cases ls[i]? <;> rfl
abbrev Glv : GM := G.tup 2 (G.cons (G.name 3) (G.cons (G.name 4) G.nil))
theorem la_step {ls vs : List (List Nat)} (hp : VOk 400 ls) (hr : VOk 60 (ls.map red)) (hv : VOk 1000 vs) (hz : vs.length < 1000000) {d : D} (hd : okF d) (b x3 x4 : Dx.Slot) :
    if lnB vs.length (ls.map red).length d = true ∧ (valD (ls.map red) vs d).length ≤ 1000 then S.foB bl_law_value_1 Glv (.tup [.int (vs.length : Nat), d]) [.tr (.lst (ls.map tS)), b, .ol false (tS [] :: vs.map tS), x3, x4] = .ok .nx [.tr (.lst (ls.map tS)), b, .ol false (tS [] :: (vs ++ [valD (ls.map red) vs d]).map tS), .tr (.int (vs.length : Nat)), .tr d]
    else ∃ ρ, S.foB bl_law_value_1 Glv (.tup [.int (vs.length : Nat), d]) [.tr (.lst (ls.map tS)), b, .ol false (tS [] :: vs.map tS), x3, x4] = .ok (.rt (.t .non)) ρ := by
  have e := law_is_line_ok hd vs.length ls.length
  have lm : ((ls.map red).length : Int) = ls.length := by simp
  rw [lm]
  cases q : lnB vs.length ls.length d with
  | false =>
    rw [q] at e
    rw [if_neg (by simp)]
    exact ⟨_, by simp [bl_law_value_1, e]; rfl⟩
  | true =>
    rw [q] at e
    obtain ⟨w1, w2⟩ := hr.val hv d
    have la : atI (tS [] :: (vs.map tS ++ [tS (valD (ls.map red) vs d)])) (-1) = some (tS (valD (ls.map red) vs d)) := by
      rw [← List.cons_append]; exact atI_last _ _
    rcases ln_form q with ⟨i, rfl, hi⟩ | ⟨i, rfl, hi⟩ | ⟨i, j, rfl, hi, hj⟩
    · have ea := at_tS (vs := ls) (i := i) (by omega)
      have ev : valD (ls.map red) vs (.tup [.str (Str.ofString "generator"), .int i]) = red (ls.getD i []) := by simp only [valD, if_true, Int.toNat_natCast, getD_red]
      have er := law_reduced_ok (hp.getD i).1 (by have := (hp.getD i).2; omega)
      have a0 : atI [D.str (Str.ofString "generator"), .int i] 0 = some (.str (Str.ofString "generator")) := rfl
      have a1 : atI [D.str (Str.ofString "generator"), .int i] 1 = some (.int i) := rfl
      rw [ev] at w1 w2 la ⊢
      generalize ls.getD i [] = w0 at *
      generalize red w0 = w at *
      by_cases l : w.length ≤ 1000
      · rw [if_pos ⟨rfl, l⟩]
        simp [bl_law_value_1, e, ea, er, a0, a1, la, S_len, show w.length ≤ 16000000 by omega, show vs.length < 15999999 by omega, show vs.length + 1 < 16000000 by omega, show ¬ (1000 : Int) < w.length by omega, show ¬ 1000 < w.length by omega]
      · rw [if_neg (by simp [l])]
        exact ⟨_, by simp [bl_law_value_1, e, ea, er, a0, a1, la, S_len, show vs.length < 15999999 by omega, show vs.length + 1 < 16000000 by omega, show w.length ≤ 16000000 by omega, show (1000 : Int) < w.length by omega, show 1000 < w.length by omega]; rfl⟩
    · have ea := at_tS1 (vs := vs) (i := i) (by omega)
      have ev : valD (ls.map red) vs (.tup [.str (Str.ofString "inverse"), .int i]) = inv (vs.getD i []) := by simp [valD, wd4]
      have ei := law_inverse_ok (hv.getD i).1 (by have := (hv.getD i).2; omega)
      have a0 : atI [D.str (Str.ofString "inverse"), .int i] 0 = some (.str (Str.ofString "inverse")) := rfl
      have a1 : atI [D.str (Str.ofString "inverse"), .int i] 1 = some (.int i) := rfl
      rw [ev] at w1 w2 la ⊢
      generalize vs.getD i [] = w0 at *
      generalize inv w0 = w at *
      by_cases l : w.length ≤ 1000
      · rw [if_pos ⟨rfl, l⟩]
        simp [bl_law_value_1, e, ea, ei, a0, a1, la, wd4, S_len, show w.length ≤ 16000000 by omega, show vs.length < 15999999 by omega, show vs.length + 1 < 16000000 by omega, show ¬ (1000 : Int) < w.length by omega, show ¬ 1000 < w.length by omega]
      · rw [if_neg (by simp [l])]
        exact ⟨_, by simp [bl_law_value_1, e, ea, ei, a0, a1, la, wd4, S_len, show vs.length < 15999999 by omega, show vs.length + 1 < 16000000 by omega, show w.length ≤ 16000000 by omega, show (1000 : Int) < w.length by omega, show 1000 < w.length by omega]; rfl⟩
    · have ea := at_tS1 (vs := vs) (i := i) (by omega)
      have eb := at_tS1 (vs := vs) (i := j) (by omega)
      have ei := law_reduced_ok ((hv.getD i).1.app (hv.getD j).1) (by rw [List.length_append]; have := (hv.getD i).2; have := (hv.getD j).2; omega)
      have ev : valD (ls.map red) vs (.tup [.str (Str.ofString "product"), .int i, .int j]) = red (vs.getD i [] ++ vs.getD j []) := rfl
      have a0 : atI [D.str (Str.ofString "product"), .int i, .int j] 0 = some (.str (Str.ofString "product")) := rfl
      have a1 : atI [D.str (Str.ofString "product"), .int i, .int j] 1 = some (.int i) := rfl
      have a2 : atI [D.str (Str.ofString "product"), .int i, .int j] 2 = some (.int j) := rfl
      have l1 := (hv.getD i).2
      have l2 := (hv.getD j).2
      rw [ev] at w1 w2 la ⊢
      generalize vs.getD i [] = wi at *
      generalize vs.getD j [] = wj at *
      generalize red (wi ++ wj) = w at *
      by_cases l : w.length ≤ 1000
      · rw [if_pos ⟨rfl, l⟩]
        simp [bl_law_value_1, e, ea, eb, a0, a1, a2, S_app, ei, la, wd5, wd6, S_len, show wi.length + wj.length ≤ 16000000 by omega, show w.length ≤ 16000000 by omega, show vs.length < 15999999 by omega, show vs.length + 1 < 16000000 by omega, show ¬ (1000 : Int) < w.length by omega, show ¬ 1000 < w.length by omega]
      · rw [if_neg (by simp [l])]
        exact ⟨_, by simp [bl_law_value_1, e, ea, eb, a0, a1, a2, S_app, ei, la, wd5, wd6, S_len, show wi.length + wj.length ≤ 16000000 by omega, show vs.length < 15999999 by omega, show vs.length + 1 < 16000000 by omega, show w.length ≤ 16000000 by omega, show (1000 : Int) < w.length by omega, show 1000 < w.length by omega]; rfl⟩
theorem la_for {ls : List (List Nat)} (hp : VOk 400 ls) (hr : VOk 60 (ls.map red)) (b : Dx.Slot) : ∀ (ds : List D) (vs : List (List Nat)) (x3 x4 : Dx.Slot), (∀ d ∈ ds, okF d) → VOk 1000 vs → vs.length + ds.length ≤ 900000 →
    match runV (ls.map red) vs ds with
    | some ws => ∃ y3 y4, forR (S.foB bl_law_value_1 Glv) (enF vs.length ds) [.tr (.lst (ls.map tS)), b, .ol false (tS [] :: vs.map tS), x3, x4] = .ok .nx [.tr (.lst (ls.map tS)), b, .ol false (tS [] :: ws.map tS), y3, y4]
    | none => ∃ ρ, forR (S.foB bl_law_value_1 Glv) (enF vs.length ds) [.tr (.lst (ls.map tS)), b, .ol false (tS [] :: vs.map tS), x3, x4] = .ok (.rt (.t .non)) ρ
  | [], vs, x3, x4, _, hv, _ => ⟨x3, x4, rfl⟩
  | d :: ds, vs, x3, x4, hd, hv, hz => by
    rw [List.length_cons] at hz
    have st := la_step hp hr hv (by omega) (hd d List.mem_cons_self) b x3 x4
    rw [runV, enF_cons]
    by_cases c : lnB vs.length (ls.map red).length d = true ∧ (valD (ls.map red) vs d).length ≤ 1000
    · rw [if_pos c] at st ⊢
      have hv2 := hv.snoc ⟨(hr.val hv d).1, c.2⟩
      have ih := la_for hp hr b ds (vs ++ [valD (ls.map red) vs d]) (.tr (.int (vs.length : Nat))) (.tr d) (fun x hx => hd x (List.mem_cons_of_mem _ hx)) hv2 (by simp; omega)
      have le : (vs ++ [valD (ls.map red) vs d]).length = vs.length + 1 := by simp
      cases q : runV (ls.map red) (vs ++ [valD (ls.map red) vs d]) ds with
      | some ws =>
        rw [q] at ih
        rw [le] at ih
        obtain ⟨z3, z4, h3⟩ := ih
        refine ⟨z3, z4, ?_⟩
        rw [forR, st]
        exact h3
      | none =>
        rw [q] at ih
        rw [le] at ih
        obtain ⟨ρ, h3⟩ := ih
        refine ⟨ρ, ?_⟩
        rw [forR, st]
        exact h3
    · rw [if_neg c] at st ⊢
      obtain ⟨ρ, st⟩ := st
      refine ⟨ρ, ?_⟩
      rw [forR, st]
      rfl
/-- what _law_value gives -/
def laO : Option (List (List Nat)) → W
  | some ws => .t (tS (lastV ws))
  | none => .t .non
def laW (ps : List (List Nat)) : D → W
  | .lst ds => laO (runV ps [] ds)
  | _ => .t .non
theorem law_value_ok {ls : List (List Nat)} (hp : VOk 400 ls) (hr : VOk 60 (ls.map red)) {d : D} (h : okDv d) (hz : ∀ ds, d = .lst ds → ds.length ≤ 900000) : m_law_value [.lst (ls.map tS), d] = .ok (laW (ls.map red) d) [] := by
  obtain ⟨⟨t, ht⟩, ns, hd⟩ := h
  by_cases tt : t = .lst
  · by_cases sc : ∃ ds, d = .lst ds
    · obtain ⟨ds, rfl⟩ := sc
      obtain ⟨hdl, hd⟩ := hd ds rfl
      have hz := hz ds rfl
      have e := la_for hp hr (.tr (.lst ds)) ds [] .un .un hd (fun _ h => by cases h) (by simpa using hz)
      rw [laW]
      cases q : runV (ls.map red) [] ds with
      | some ws =>
        rw [q] at e
        obtain ⟨y3, y4, e⟩ := e
        simp only [List.map_nil, List.length_nil] at e
        rw [← enD_enF] at e
        have la := last_at ws
        simp [m_law_value, b_law_value, lit0, show ds.length ≤ 16000000 by omega, e, la, -forR, laO]
      | none =>
        rw [q] at e
        obtain ⟨ρ, e⟩ := e
        simp only [List.map_nil, List.length_nil] at e
        rw [← enD_enF] at e
        simp [m_law_value, b_law_value, lit0, show ds.length ≤ 16000000 by omega, e, -forR, laO]
    · exfalso; subst tt; cases d <;> first | (cases ht; done) | exact sc ⟨_, rfl⟩ | exact ns _ rfl
  · have : laW (ls.map red) d = .t .non := by cases d <;> first | rfl | (simp at ht; exact absurd ht.symm tt)
    simp [m_law_value, b_law_value, ht, tt, this]
theorem small_red {ls : List (List Nat)} (hp : VOk 8 ls) : VOk 400 ls ∧ VOk 60 (ls.map red) ∧ ∀ l ∈ ls, IsP l ∧ l.length ≤ 400 ∧ (red l).length ≤ 60 := by
  have k : ∀ l ∈ ls, IsP l ∧ l.length ≤ 400 ∧ (red l).length ≤ 60 := fun l hl => ⟨(hp l hl).1, by have := (hp l hl).2; omega, by have := (hp l hl).2; have := red_len l; omega⟩
  refine ⟨fun l hl => ⟨(k l hl).1, (k l hl).2.1⟩, fun l hl => ?_, k⟩
  obtain ⟨m, hm, rfl⟩ := List.mem_map.mp hl
  exact ⟨(k m hm).1.red, (k m hm).2.2⟩
/-- the checker and the law agree -/
theorem law_right_ok {ls : List (List Nat)} (hp : VOk 8 ls) (hz : ls.length ≤ 16) {l : List Nat} (hl : IsP l) (hy : l.length ≤ 400) {d : D} (h : okDv d) (h60 : ∀ ds, d = .lst ds → ds.length ≤ 60000) {w k : Nat} (sh : Shn w k (.lst [.lst (ls.map tS), d])) (hw : w ≤ 400000) (hk : k ≤ 60) :
    m_law_right [.lst (ls.map tS), tS l, d] = .ok (.t (.bl true)) [] := by
  obtain ⟨P1, P2, P3⟩ := small_red hp
  have e1 := law_value_ok P1 P2 h fun ds e => by have := h60 ds e; omega
  have e2 := law_reduced_ok hl (by omega)
  have e3 : m_check_derivation [.lst (ls.map tS), tS l, d] = _ := check_derivation_ok true P3 hz hl hy h
  have sr := sh.repr hw hk
  have s : ∀ b, O.repr [.bl b] = some (.t (.str (PyData.shown (.bool b)))) := fun b => (Shn.bl b 1 (Nat.le_refl _)).repr (by decide) (by decide)
  generalize (D.lst [.lst (ls.map tS), d]).py.shown = tx at sr
  have key : (laW (ls.map red) d = .t .non ∧ drv (ls.map red) (red l) d = false) ∨ ∃ v, laW (ls.map red) d = .t (tS v) ∧ drv (ls.map red) (red l) d = decide (v = red l) := by
    cases d with
    | lst ds =>
      rw [laW, drv, decide_eq_true (h60 ds rfl)]
      cases runV (ls.map red) [] ds with
      | none => exact .inl ⟨rfl, rfl⟩
      | some ws => exact .inr ⟨lastV ws, rfl, rfl⟩
    | _ => exact .inl ⟨rfl, rfl⟩
  rcases key with ⟨k1, k2⟩ | ⟨v, k1, k2⟩
  · rw [k1] at e1
    rw [k2] at e3
    simp [m_law_right, b_law_right, sr, e1, e3, s, -q_O_repr_1]
  · rw [k1] at e1
    rw [k2] at e3
    simp [m_law_right, b_law_right, sr, e1, e2, e3, s, S_inj_iff, -q_O_repr_1]
/-- a drawn line -/
def LnP (x : D) : Prop := okF x ∧ Shn 40 1 x
theorem okF_tup {ds : List D} (h : ∀ x ∈ ds, okT x) : okF (.tup ds) := ⟨⟨.tup, rfl⟩, fun es e => by cases e; exact h⟩
theorem okT_of {d : D} {t : Ty} (h : d.tyc = some t) : okT d := ⟨t, h⟩
theorem sw1 : ∀ w ≥ 12, Shn w 0 (.str (Str.ofString "generator")) := fun w hw => Shn.lit (by decide +kernel) (Nat.le_trans (show _ ≤ 12 by decide +kernel) hw)
theorem sw2 : ∀ w ≥ 12, Shn w 0 (.str (Str.ofString "inverse")) := fun w hw => Shn.lit (by decide +kernel) (Nat.le_trans (show _ ≤ 12 by decide +kernel) hw)
theorem sw3 : ∀ w ≥ 12, Shn w 0 (.str (Str.ofString "product")) := fun w hw => Shn.lit (by decide +kernel) (Nat.le_trans (show _ ≤ 12 by decide +kernel) hw)
theorem LnP.two {s : Str} {i : Nat} (hs : ∀ w ≥ 12, Shn w 0 (.str s)) (hi : i < 300) : LnP (.tup [.str s, .int i]) := by
  refine ⟨okF_tup fun x hx => ?_, (Shn.tup (w := 12) (k := 0) (n := 2) (fun x hx => ?_) (by simp)).mono (by omega) (by omega)⟩
  · simp only [List.mem_cons, List.not_mem_nil, or_false] at hx; rcases hx with rfl | rfl; exact ⟨.str, rfl⟩; exact ⟨.int, rfl⟩
  · simp only [List.mem_cons, List.not_mem_nil, or_false] at hx; rcases hx with rfl | rfl; exact hs 12 (by omega); exact Shn.int (by omega) (by omega) (by omega)
theorem LnP.three {s : Str} {i j : Nat} (hs : ∀ w ≥ 12, Shn w 0 (.str s)) (hi : i < 300) (hj : j < 300) : LnP (.tup [.str s, .int i, .int j]) := by
  refine ⟨okF_tup fun x hx => ?_, (Shn.tup (w := 12) (k := 0) (n := 3) (fun x hx => ?_) (by simp)).mono (by omega) (by omega)⟩
  · simp only [List.mem_cons, List.not_mem_nil, or_false] at hx; rcases hx with rfl | rfl | rfl; exact ⟨.str, rfl⟩; exact ⟨.int, rfl⟩; exact ⟨.int, rfl⟩
  · simp only [List.mem_cons, List.not_mem_nil, or_false] at hx; rcases hx with rfl | rfl | rfl; exact hs 12 (by omega); exact Shn.int (by omega) (by omega) (by omega); exact Shn.int (by omega) (by omega) (by omega)
theorem drawn_ok {ds : List D} (h : Pool ds) (many : Nat) (hm : many ≤ 100) : ∃ (ls ds' : List D), (∀ x ∈ ls, LnP x) ∧ ls.length ≤ 14 ∧ Pool ds' ∧ m_law_drawn ds [.int many] = .ok (.f ls) ds' := by
  obtain ⟨n, ds1, hn, P1, e1⟩ := take_ok h 15 (by omega) (by omega)
  have e1' : m_law_take ds [.int 15] = .ok (.t (.int n)) ds1 := e1
  obtain ⟨ρ', e, ⟨ds2, ls, x3, x4, rfl, P2, hl, hll⟩⟩ := forR_inv (B := S.foB bl_law_drawn_1 (G.name 3)) (I.upD 0 n)
    (fun i ρ => ∃ ds' ls x3 x4, ρ = [.ol true ds', .tr (.int many), .ol false ls, x3, x4] ∧ Pool ds' ∧ (∀ x ∈ ls, LnP x) ∧ ls.length ≤ i ∧ (ls ≠ [] → 1 ≤ i)) 0 _ ⟨ds1, [], .un, .un, rfl, P1, (fun _ h => by cases h), Nat.le_refl _, fun h => absurd rfl h⟩ (by
      rintro i dd ρ hi ⟨ds', ls, x3, x4, rfl, P', hl, hll, h1⟩
      obtain ⟨hin, rfl⟩ := upD_at hi
      obtain ⟨k, ds3, hk, P3, e3⟩ := take_ok P' 4 (by omega) (by omega)
      have e3' : m_law_take ds' [.int 4] = .ok (.t (.int k)) ds3 := e3
      have sz : ls.length < 16000000 := by omega
      have app : ∀ {x : D}, LnP x → ∀ y ∈ ls ++ [x], LnP y := fun hx y hy => (List.mem_append.mp hy).elim (hl y) fun hy => by rw [List.mem_singleton.mp hy]; exact hx
      simp only [Nat.zero_add] at hll h1
      by_cases c1 : 0 < many ∧ (k < 2 ∨ ls = [])
      · obtain ⟨g, ds4, hg, P4, e4⟩ := take_ok P3 many (by omega) (by omega)
        refine ⟨[.ol true ds4, .tr (.int many), .ol false (ls ++ [.tup [.str (Str.ofString "generator"), .int g]]), .tr (.int i), .tr (.int k)], ?_, ds4, _, _, _, rfl, P4, app (LnP.two sw1 (by omega)), by simp; omega, fun _ => by omega⟩
        rcases c1.2 with c | c
        · simp [bl_law_drawn_1, e3', e4, c1.1, c, show (k : Int) < 2 by omega, sz]
        · subst c
          by_cases c : (k : Int) < 2 <;> simp [bl_law_drawn_1, e3', e4, c1.1, c]
      · by_cases c2 : k = 2 ∧ ls ≠ []
        · obtain ⟨g, ds4, hg, P4, e4⟩ := take_ok P3 i (h1 c2.2) (by omega)
          refine ⟨[.ol true ds4, .tr (.int many), .ol false (ls ++ [.tup [.str (Str.ofString "inverse"), .int g]]), .tr (.int i), .tr (.int k)], ?_, ds4, _, _, _, rfl, P4, app (LnP.two sw2 (by omega)), by simp; omega, fun _ => by omega⟩
          obtain ⟨rfl, ne⟩ := c2
          have ie : ls.isEmpty = false := by cases ls <;> first | rfl | exact absurd rfl ne
          by_cases c : 0 < many <;> simp [bl_law_drawn_1, e3', e4, c, ie, ne, sz]
        · by_cases c3 : ls = []
          · subst c3
            refine ⟨[.ol true ds3, .tr (.int many), .ol false [], .tr (.int i), .tr (.int k)], ?_, ds3, [], _, _, rfl, P3, hl, by simp, fun h => absurd rfl h⟩
            have m0 : ¬ 0 < many := fun h => c1 ⟨h, .inr rfl⟩
            by_cases c : k = 2 <;> simp [bl_law_drawn_1, e3', m0, c]
          · obtain ⟨g, ds4, hg, P4, e4⟩ := take_ok P3 i (h1 c3) (by omega)
            obtain ⟨g2, ds5, hg2, P5, e5⟩ := take_ok P4 i (h1 c3) (by omega)
            refine ⟨[.ol true ds5, .tr (.int many), .ol false (ls ++ [.tup [.str (Str.ofString "product"), .int g, .int g2]]), .tr (.int i), .tr (.int k)], ?_, ds5, _, _, _, rfl, P5, app (LnP.three sw3 (by omega) (by omega)), by simp; omega, fun _ => by omega⟩
            have ie : ls.isEmpty = false := by cases ls <;> first | rfl | exact absurd rfl c3
            have k2 : k ≠ 2 := fun h => c2 ⟨h, c3⟩
            by_cases c : 0 < many
            · have : ¬ k < 2 := fun h => c1 ⟨c, .inl h⟩
              simp [bl_law_drawn_1, e3', e4, e5, c, show ¬ (k : Int) < 2 by omega, ie, c3, k2, show ¬ (k : Int) = 2 by omega, sz]
            · simp [bl_law_drawn_1, e3', e4, e5, c, ie, c3, k2, show ¬ (k : Int) = 2 by omega, sz])
  rw [upD_len] at hll
  refine ⟨ls, ds2, hl, by omega, P2, ?_⟩
  simp [m_law_drawn, b_law_drawn, e1', show (-4611686018427387904 : Int) ≤ n by omega, show (n : Int) < 4611686018427387904 by omega, -forR, e, show n ≤ 16000000 by omega]
theorem atI_mem {xs : List D} {k : Nat} (h : k < xs.length) : ∃ d, atI xs (k : Int) = some d ∧ d ∈ xs := ⟨xs[k], atI_at (List.getElem?_eq_getElem h), List.getElem_mem h⟩
/-- a far number, or none -/
def FaP (x : D) : Prop := okT x ∧ Shn 80 2 x
/-- a line or none -/
def OdP (x : D) : Prop := okF x ∧ Shn 400 4 x
theorem LnP.od {x : D} (h : LnP x) : OdP x := ⟨h.1, h.2.mono (by omega) (by omega)⟩
theorem far_ok (a m : Nat) (ha : a ≤ 100) (hm : m ≤ 100) : ∀ d ∈ [D.int (-1), .int m, .int a, .int ((a : Int) + 1), .bl true, .non, .str (Str.ofString "0"), .int 100000000000000000000, .tup [.int 0], .lst [.int 0]], FaP d := by
  intro d hd
  simp only [List.mem_cons, List.not_mem_nil, or_false] at hd
  have one : ∀ x ∈ [D.int 0], Shn 12 0 x := fun x hx => by rw [List.mem_singleton.mp hx]; exact Shn.int (by omega) (by omega) (by omega)
  rcases hd with rfl | rfl | rfl | rfl | rfl | rfl | rfl | rfl | rfl | rfl
  · exact ⟨⟨.int, rfl⟩, (Shn.int (w := 12) (by omega) (by omega) (by omega)).mono (by omega) (by omega)⟩
  · exact ⟨⟨.int, rfl⟩, (Shn.int (w := 12) (by omega) (by omega) (by omega)).mono (by omega) (by omega)⟩
  · exact ⟨⟨.int, rfl⟩, (Shn.int (w := 12) (by omega) (by omega) (by omega)).mono (by omega) (by omega)⟩
  · exact ⟨⟨.int, rfl⟩, (Shn.int (w := 12) (by omega) (by omega) (by omega)).mono (by omega) (by omega)⟩
  · exact ⟨⟨.bl, rfl⟩, (Shn.bl true 1 (by omega)).mono (by omega) (by omega)⟩
  · exact ⟨⟨.non, rfl⟩, (Shn.non 1 (by omega)).mono (by omega) (by omega)⟩
  · exact ⟨⟨.str, rfl⟩, (Shn.lit (w := 80) (by decide +kernel) (by decide +kernel)).mono (by omega) (by omega)⟩
  · exact ⟨⟨.int, rfl⟩, (Shn.intL (w := 80) (by decide +kernel) (by decide +kernel)).mono (by omega) (by omega)⟩
  · exact ⟨⟨.tup, rfl⟩, (Shn.tup (n := 1) one (by simp)).mono (by omega) (by omega)⟩
  · exact ⟨⟨.lst, rfl⟩, (Shn.lst (n := 1) one (by simp)).mono (by omega) (by omega)⟩
theorem OdP.tup {ds : List D} (h : ∀ x ∈ ds, FaP x) (n : ds.length ≤ 4) : OdP (.tup ds) := ⟨okF_tup fun x hx => (h x hx).1, (Shn.tup (n := 4) (fun x hx => (h x hx).2) n).mono (by omega) (by omega)⟩
theorem FaP.z : FaP (.int 0) := ⟨⟨.int, rfl⟩, (Shn.int (w := 12) (by omega) (by omega) (by omega)).mono (by omega) (by omega)⟩
theorem FaP.s {s : Str} (h : (PyData.leavesShort 30 (.str s) && decide (PyData.weight (.str s) ≤ 80)) = true) : FaP (.str s) := by
  rw [Bool.and_eq_true, decide_eq_true_eq] at h
  exact ⟨⟨.str, rfl⟩, (Shn.lit h.1 h.2).mono (by omega) (by omega)⟩
theorem OdP.no {x : D} (h : FaP x) (n : ∀ ds, x ≠ .tup ds) : OdP x := ⟨⟨h.1, fun ds e => absurd e (n ds)⟩, h.2.mono (by omega) (by omega)⟩
theorem some_ok {f : D} (hf : FaP f) : ∀ d ∈ [D.tup [.str (Str.ofString "generator"), f], .tup [.str (Str.ofString "inverse"), f], .tup [.str (Str.ofString "product"), f, .int 0], .tup [.str (Str.ofString "product"), .int 0, f], .tup [.str (Str.ofString "generator")],
    .tup [.str (Str.ofString "inverse"), .int 0, .int 0], .tup [.str (Str.ofString "product"), .int 0], .lst [.str (Str.ofString "generator"), .int 0], .str (Str.ofString "generator"), .non, .tup [], .tup [.str (Str.ofString "power"), .int 0],
    .tup [.int 0, .str (Str.ofString "generator")], .tup [.str (Str.ofString "generator"), .int 0, .int 0], .dct [], .int 5, .tup [.lst [.str (Str.ofString "generator")], .int 0], .tup [.dct [], .int 0]], OdP d := by
  have g : FaP (.str (Str.ofString "generator")) := FaP.s (by decide +kernel)
  have i : FaP (.str (Str.ofString "inverse")) := FaP.s (by decide +kernel)
  have p : FaP (.str (Str.ofString "product")) := FaP.s (by decide +kernel)
  have w : FaP (.str (Str.ofString "power")) := FaP.s (by decide +kernel)
  have z := FaP.z
  have gl : Shn 80 2 (.lst [.str (Str.ofString "generator")]) := (Shn.lst (w := 12) (k := 0) (n := 1) (fun x hx => by rw [List.mem_singleton.mp hx]; exact sw1 12 (by omega)) (by simp)).mono (by omega) (by omega)
  intro d hd
  simp only [List.mem_cons, List.not_mem_nil, or_false] at hd
  rcases hd with rfl | rfl | rfl | rfl | rfl | rfl | rfl | rfl | rfl | rfl | rfl | rfl | rfl | rfl | rfl | rfl | rfl | rfl
  · exact OdP.tup (by simp [g, hf]) (by simp)
  · exact OdP.tup (by simp [i, hf]) (by simp)
  · exact OdP.tup (by simp [p, z, hf]) (by simp)
  · exact OdP.tup (by simp [p, z, hf]) (by simp)
  · exact OdP.tup (by simp [g]) (by simp)
  · exact OdP.tup (by simp [i, z]) (by simp)
  · exact OdP.tup (by simp [p, z]) (by simp)
  · refine ⟨⟨⟨.lst, rfl⟩, fun ds e => by cases e⟩, (Shn.lst (w := 80) (k := 2) (n := 2) (fun x hx => ?_) (by simp)).mono (by omega) (by omega)⟩
    simp only [List.mem_cons, List.not_mem_nil, or_false] at hx
    rcases hx with rfl | rfl
    · exact g.2
    · exact z.2
  · exact OdP.no g (fun ds e => by cases e)
  · exact ⟨⟨⟨.non, rfl⟩, fun ds e => by cases e⟩, (Shn.non 1 (by omega)).mono (by omega) (by omega)⟩
  · exact OdP.tup (by simp) (by simp)
  · exact OdP.tup (by simp [w, z]) (by simp)
  · exact OdP.tup (by simp [g, z]) (by simp)
  · exact OdP.tup (by simp [g, z]) (by simp)
  · exact ⟨⟨⟨.dct, rfl⟩, fun ds e => by cases e⟩, (Shn.dct0 1 (by omega)).mono (by omega) (by omega)⟩
  · exact ⟨⟨⟨.int, rfl⟩, fun ds e => by cases e⟩, (Shn.int (w := 12) (by omega) (by omega) (by omega)).mono (by omega) (by omega)⟩
  · exact OdP.tup (by simp [z]; exact ⟨⟨.lst, rfl⟩, gl⟩) (by simp)
  · exact OdP.tup (by simp [z]; exact ⟨⟨.dct, rfl⟩, (Shn.dct0 1 (by omega)).mono (by omega) (by omega)⟩) (by simp)
theorem odd_ok {ds : List D} (h : Pool ds) (a m : Nat) (ha : a ≤ 99) (hm : m ≤ 100) : ∃ d ds', OdP d ∧ Pool ds' ∧ m_law_odd ds [.int a, .int m] = .ok (.t d) ds' := by
  obtain ⟨k, ds1, h1, P1, e1⟩ := take_ok h 10 (by omega) (by omega)
  obtain ⟨k2, ds2, h2, P2, e2⟩ := take_ok P1 18 (by omega) (by omega)
  have e1' : m_law_take ds [.int 10] = .ok (.t (.int k)) ds1 := e1
  have e2' : m_law_take ds1 [.int 18] = .ok (.t (.int k2)) ds2 := e2
  obtain ⟨f, ef, mf⟩ := atI_mem (xs := [D.int (-1), .int m, .int a, .int ((a : Int) + 1), .bl true, .non, .str (Str.ofString "0"), .int 100000000000000000000, .tup [.int 0], .lst [.int 0]]) (k := k) (by simpa using h1)
  have hf := far_ok a m (by omega) hm f mf
  obtain ⟨d, ed, md⟩ := atI_mem (xs := [D.tup [.str (Str.ofString "generator"), f], .tup [.str (Str.ofString "inverse"), f], .tup [.str (Str.ofString "product"), f, .int 0], .tup [.str (Str.ofString "product"), .int 0, f], .tup [.str (Str.ofString "generator")],
    .tup [.str (Str.ofString "inverse"), .int 0, .int 0], .tup [.str (Str.ofString "product"), .int 0], .lst [.str (Str.ofString "generator"), .int 0], .str (Str.ofString "generator"), .non, .tup [], .tup [.str (Str.ofString "power"), .int 0],
    .tup [.int 0, .str (Str.ofString "generator")], .tup [.str (Str.ofString "generator"), .int 0, .int 0], .dct [], .int 5, .tup [.lst [.str (Str.ofString "generator")], .int 0], .tup [.dct [], .int 0]]) (k := k2) (by simpa using h2)
  refine ⟨d, ds2, some_ok hf d md, P2, ?_⟩
  simp [m_law_odd, b_law_odd, e1', e2', ef, ed]
theorem generators_ok {ds : List D} (h : Pool ds) (many most letters : Nat) (h0 : many ≤ 1000) (h1 : most ≤ 1000000) (h2 : 1 ≤ letters) (h3 : letters ≤ 4) :
    ∃ (ls : List (List Nat)) (ds' : List D), (∀ l ∈ ls, IsP l ∧ l.length ≤ most) ∧ ls.length ≤ many ∧ Pool ds' ∧ m_law_generators ds [.int many, .int most, .int letters] = .ok (.f (ls.map tS)) ds' := by
  obtain ⟨d, ds1, hd, P1, e1⟩ := take_ok h (many + 1) (by omega) (by omega)
  have e1' : m_law_take ds [.int ((many : Int) + 1)] = .ok (.t (.int d)) ds1 := e1
  obtain ⟨zs, ρ', e, ⟨ds2, ls, rfl, P2, hz, hl, hll⟩⟩ := lcR_inv (vs := [4]) (g := G.name 4) (t := T.yes) (e := ce_law_generators_1)
    (I.upD 0 d) (fun i ρ ys => ∃ ds' ls, ρ = [.ol true ds', .tr (.int many), .tr (.int most), .tr (.int letters), .un] ∧ Pool ds' ∧ ys = (ls : List (List Nat)).map tS ∧ (∀ l ∈ ls, IsP l ∧ l.length ≤ most) ∧ ls.length = i) 0 [.ol true ds1, .tr (.int many), .tr (.int most), .tr (.int letters), .un] [] ⟨ds1, [], rfl, P1, rfl, (fun _ h => by cases h), rfl⟩ (by
      rintro i dd ρ ys hi ⟨ds', ls, rfl, P', rfl, hl, hll⟩
      obtain ⟨l, ds2, hp, hpl, P2, e2⟩ := path_ok P' most letters h1 h2 h3
      refine ⟨[tS l], [.ol true ds2, .tr (.int many), .tr (.int most), .tr (.int letters), .un], by simp [ce_law_generators_1, e2], ds2, ls ++ [l], rfl, P2, by simp, fun k hk => ?_, by simp; omega⟩
      rcases List.mem_append.mp hk with h | h
      · exact hl k h
      · rw [List.mem_singleton.mp h]; exact ⟨hp, hpl⟩)
  simp only [List.nil_append] at hz
  subst hz
  rw [upD_len] at hll
  refine ⟨ls, ds2, hl, by omega, P2, ?_⟩
  simp [m_law_generators, b_law_generators, e1', show (-4611686018427387904 : Int) ≤ d by omega, show (d : Int) < 4611686018427387904 by omega, -lcR, e, show d ≤ 16000000 by omega]
/-- a list of lines, few enough -/
def okB (n : Nat) (d : D) : Prop := ∃ ls, d = .lst ls ∧ ls.length ≤ n ∧ ∀ x ∈ ls, OdP x
theorem okB.dv {n : Nat} {d : D} (h : okB n d) (hn : n ≤ 60000) : okDv d ∧ ∀ ds, d = .lst ds → ds.length ≤ 60000 := by
  obtain ⟨ls, rfl, hl, hx⟩ := h
  exact ⟨⟨⟨.lst, rfl⟩, (fun _ e => by cases e), fun ds e => by cases e; exact ⟨by omega, fun x h => (hx x h).1⟩⟩, fun ds e => by cases e; omega⟩
theorem cutD_sub {ds : List D} (lo hi : Option Int) : (∀ x ∈ Dx.cutD ds lo hi, x ∈ ds) ∧ (Dx.cutD ds lo hi).length ≤ ds.length :=
  ⟨fun x hx => List.mem_of_mem_drop (List.mem_of_mem_take hx), Nat.le_trans (List.length_take_le' ..) (by rw [List.length_drop]; omega)⟩
theorem bent_ok {ds : List D} (h : Pool ds) {row : List D} (hr : ∀ x ∈ row, OdP x) (hn : row.length ≤ 20) (m : Nat) (hm : m ≤ 100) : ∃ d ds', okB 41 d ∧ Pool ds' ∧ m_law_bent ds [.lst row, .int m] = .ok (.t d) ds' := by
  obtain ⟨at_, ds1, h1, P1, e1⟩ := take_ok h (row.length + 1) (by omega) (by omega)
  have e1' : m_law_take ds [.int ((row.length : Int) + 1)] = .ok (.t (.int at_)) ds1 := e1
  obtain ⟨o, ds2, ho, P2, e2⟩ := odd_ok P1 at_ m (by omega) hm
  obtain ⟨k, ds3, h3, P3, e3⟩ := take_ok P2 6 (by omega) (by omega)
  have e3' : m_law_take ds2 [.int 6] = .ok (.t (.int k)) ds3 := e3
  obtain ⟨c1, l1⟩ := cutD_sub (ds := row) none (some (at_ : Int))
  obtain ⟨c2, l2⟩ := cutD_sub (ds := row) (some (at_ : Int)) none
  obtain ⟨c3, l3⟩ := cutD_sub (ds := row) (some ((at_ : Int) + 1)) none
  obtain ⟨d, ed, md⟩ := atI_mem (xs := [D.lst (Dx.cutD row none (some (at_ : Int)) ++ (o :: Dx.cutD row (some (at_ : Int)) none)), .lst (Dx.cutD row none (some (at_ : Int)) ++ (o :: Dx.cutD row (some ((at_ : Int) + 1)) none)), .lst (Dx.cutD row none (some (at_ : Int)) ++ Dx.cutD row (some ((at_ : Int) + 1)) none),
      .lst row.reverse, .lst (Dx.cutD row none (some (at_ : Int))), .lst (row ++ row)]) (k := k) (by simpa using h3)
  refine ⟨d, ds3, ?_, P3, ?_⟩
  · simp only [List.mem_cons, List.not_mem_nil, or_false] at md
    rcases md with rfl | rfl | rfl | rfl | rfl | rfl
    · exact ⟨_, rfl, by simp; omega, fun x hx => by rcases List.mem_append.mp hx with h | h; exact hr x (c1 x h); rcases List.mem_cons.mp h with rfl | h; exact ho; exact hr x (c2 x h)⟩
    · exact ⟨_, rfl, by simp; omega, fun x hx => by rcases List.mem_append.mp hx with h | h; exact hr x (c1 x h); rcases List.mem_cons.mp h with rfl | h; exact ho; exact hr x (c3 x h)⟩
    · exact ⟨_, rfl, by simp; omega, fun x hx => by rcases List.mem_append.mp hx with h | h; exact hr x (c1 x h); exact hr x (c3 x h)⟩
    · exact ⟨_, rfl, by simp; omega, fun x hx => hr x (List.mem_reverse.mp hx)⟩
    · exact ⟨_, rfl, by omega, fun x hx => hr x (c1 x hx)⟩
    · exact ⟨_, rfl, by simp; omega, fun x hx => (List.mem_append.mp hx).elim (hr x) (hr x)⟩
  · simp [m_law_bent, b_law_bent, e1', e2, e3', ed, show (Dx.cutD row none (some (at_ : Int))).length + 1 ≤ 16000000 by omega,
      show (Dx.cutD row none (some (at_ : Int))).length + 1 + (Dx.cutD row (some (at_ : Int)) none).length ≤ 16000000 by omega, show (Dx.cutD row none (some (at_ : Int))).length + 1 + (Dx.cutD row (some ((at_ : Int) + 1)) none).length ≤ 16000000 by omega,
      show (Dx.cutD row none (some (at_ : Int))).length + (Dx.cutD row (some ((at_ : Int) + 1)) none).length ≤ 16000000 by omega, show row.length + row.length ≤ 16000000 by omega, show row.length ≤ 16000000 by omega]
/-! the limits -/
def isLn : D → Bool
  | .tup [.str _, .int _] => true
  | .tup [.str _, .int _, .int _] => true
  | _ => false
theorem isLn_ok {x : D} (h : isLn x = true) : okF x := by
  unfold isLn at h
  split at h
  · exact okF_tup fun x hx => by simp only [List.mem_cons, List.not_mem_nil, or_false] at hx; rcases hx with rfl | rfl; exact ⟨.str, rfl⟩; exact ⟨.int, rfl⟩
  · exact okF_tup fun x hx => by simp only [List.mem_cons, List.not_mem_nil, or_false] at hx; rcases hx with rfl | rfl | rfl; exact ⟨.str, rfl⟩; exact ⟨.int, rfl⟩; exact ⟨.int, rfl⟩
  · cases h
def gsB (ls : List (List Nat)) : Bool := ls.all fun l => isPth l && decide ((red l).length ≤ 60)
/-- a check told by counting -/
theorem chk_drv {ls : List (List Nat)} {l : List Nat} {ds : List D} {b : Bool} (h1 : gsB ls = true) (hz : ls.length ≤ 16) (h2 : isPth l = true) (h3 : ds.all isLn = true) (h4 : ds.length ≤ 1000000) (h : drv (ls.map red) (red l) (.lst ds) = b) :
    m_check_derivation [.lst (ls.map tS), tS l, .lst ds] = .ok (.t (.bl b)) [] := by
  have P := List.all_eq_true.mp h1
  have L := isPth_iff.mp h2
  have := check_derivation_ok true (ls := ls) (fun l hl => by
    have := P l hl
    rw [Bool.and_eq_true, isPth_iff, decide_eq_true_eq] at this
    exact ⟨this.1.1, this.1.2, this.2⟩) hz L.1 L.2 (d := .lst ds) ⟨⟨.lst, rfl⟩, (fun _ e => by cases e), fun es e => by cases e; exact ⟨h4, fun x hx => isLn_ok (List.all_eq_true.mp h3 x hx)⟩⟩
  rw [h] at this
  exact this
def w25 : List Nat := (List.replicate 25 [97, 98]).flatten
def w100 : List Nat := (List.replicate 100 [97, 98]).flatten
theorem m_25 : O.mul (.str (Str.ofString "ab")) (.int 25) = some (.t (tS w25)) := by
  rw [q_O_mul_2, if_pos (by decide +kernel)]
  have : mulS (Str.ofString "ab") (25 : Int).toNat = S w25 := by decide +kernel
  rw [this]
  rfl
theorem m_100 : O.mul (.str (Str.ofString "ab")) (.int 100) = some (.t (tS w100)) := by
  rw [q_O_mul_2, if_pos (by decide +kernel)]
  have : mulS (Str.ofString "ab") (100 : Int).toNat = S w100 := by decide +kernel
  rw [this]
  rfl
abbrev gL (i : Int) : D := .tup [.str (Str.ofString "generator"), .int i]
abbrev iL (i : Int) : D := .tup [.str (Str.ofString "inverse"), .int i]
abbrev pL (i j : Int) : D := .tup [.str (Str.ofString "product"), .int i, .int j]
abbrev lns1 : List D := [gL 0, pL 0 0, pL 1 1, pL 2 2, pL 3 3, pL 4 2, iL 4, pL 6 5]
abbrev lns2 : List D := [gL 0, pL 0 0, pL 1 1, pL 2 2, pL 3 3, pL 4 2, iL 4, pL 6 5, gL 1, pL 5 8, iL 8, pL 9 10, pL 6 11]
theorem lim1 : m_check_derivation [.lst [tS w25, tS [97]], tS w100, .lst lns1] = .ok (.t (.bl true)) [] := chk_drv (ls := [w25, [97]]) (by decide +kernel) (by simp) (by decide +kernel) (by decide +kernel) (by simp) (by decide +kernel)
theorem lim2 : m_check_derivation [.lst [tS w25, tS [97]], tS w100, .lst lns2] = .ok (.t (.bl false)) [] := chk_drv (ls := [w25, [97]]) (by decide +kernel) (by simp) (by decide +kernel) (by decide +kernel) (by simp) (by decide +kernel)
/-! sixty thousand lines -/
theorem run_gen : ∀ (n : Nat) (vs : List (List Nat)), (∀ v ∈ vs, v = []) → ∃ ws, runV [[]] vs (List.replicate n (gL 0)) = some ws ∧ ∀ v ∈ ws, v = []
  | 0, vs, h => ⟨vs, rfl, h⟩
  | n + 1, vs, h => by
    rw [List.replicate_succ, runV, if_pos ⟨rfl, Nat.zero_le _⟩]
    exact run_gen n _ fun v hv => by
      rcases List.mem_append.mp hv with hv | hv
      · exact h v hv
      · rw [List.mem_singleton.mp hv]; rfl
theorem rep_one (x : D) (n : Nat) : repD [x] n = List.replicate n x := by simp [repD]
theorem lim3 (n : Nat) (hn : n ≤ 1000000) : m_check_derivation [.lst [tS []], tS [], .lst (List.replicate n (gL 0))] = .ok (.t (.bl (decide (n ≤ 60000)))) [] := by
  refine chk_drv (ls := [[]]) (by decide +kernel) (by simp) (by decide +kernel) (List.all_eq_true.mpr fun x hx => by rw [List.eq_of_mem_replicate hx]; rfl) (by simpa using hn) ?_
  obtain ⟨ws, e, h⟩ := run_gen n [] (fun _ h => by cases h)
  have e' : runV ([[]].map red) [] (List.replicate n (gL 0)) = some ws := e
  have l : lastV ws = [] := by
    unfold lastV
    have m := List.getLast_mem (show ([] :: ws : List (List Nat)) ≠ [] by simp)
    rcases List.mem_cons.mp m with e | m
    · exact e
    · exact h _ m
  rw [drv, e', List.length_replicate]
  simp [l, show red [] = [] from rfl]
theorem cut_one (x : D) (xs : List D) : Dx.cutD (x :: xs) none (some 1) = [x] := by
  unfold Dx.cutD
  simp [HT.sIx]
theorem limits_ok {ds : List D} (h : Pool ds) : ∃ ds', m_law_limits_right ds [] = .ok (.t (.bl true)) ds' := by
  obtain ⟨k, ds1, hk, P1, e1⟩ := take_ok h 4 (by omega) (by omega)
  have e1' : m_law_take ds [.int 4] = .ok (.t (.int k)) ds1 := e1
  have f (a b c d : Dx.Slot) : forR (S.foB bl_law_limits_right_1 (G.name 2)) (I.upD 0 4) [a, .ol false [gL 0], b, c, d] = .ok .nx [a, .ol false [gL 0, pL 0 0, pL 1 1, pL 2 2, pL 3 3], .tr (.int 3), c, d] := by
    simp [I.upD, List.range_succ, bl_law_limits_right_1]
  have sa : Str.ofString "a" = S [97] := by decide +kernel
  obtain ⟨X, hX, lX, c3, c4, cX⟩ : ∃ X, repD [gL 0] 60000 = X ∧ X.length = 60000 ∧ m_check_derivation [.lst [tS []], tS [], .lst X] = .ok (.t (.bl true)) [] ∧ m_check_derivation [.lst [tS []], tS [], .lst (X ++ [gL 0])] = .ok (.t (.bl false)) [] ∧ Dx.cutD X none (some 1) = [gL 0] := by
    refine ⟨_, rep_one _ _, List.length_replicate, lim3 60000 (by omega), ?_, ?_⟩
    · rw [← List.replicate_succ']
      exact lim3 60001 (by omega)
    · exact cut_one _ (List.replicate 59999 (gL 0))
  refine ⟨ds1, ?_⟩
  by_cases c : 0 < k
  · simp [m_law_limits_right, b_law_limits_right, f, m_25, m_100, sa, lim1, lim2, e1', c, -forR, -q_O_mul_1, -q_O_mul_2]
  · simp [m_law_limits_right, b_law_limits_right, f, m_25, m_100, sa, lit0, lim1, lim2, e1', c, hX, lX, c3, c4, cX, -forR, -q_O_mul_1, -q_O_mul_2]

/-! the law -/
theorem shn_all {ls : List (List Nat)} (hp : VOk 8 ls) (hz : ls.length ≤ 4) {n : Nat} {d : D} (h : okB n d) (hn : n ≤ 41) : Shn 40000 6 (.lst [.lst (ls.map tS), d]) := by
  obtain ⟨row, rfl, hl, hx⟩ := h
  refine (Shn.lst (w := 17000) (k := 5) (n := 2) (fun d hd => ?_) (by simp)).mono (by omega) (by omega)
  simp only [List.mem_cons, List.not_mem_nil, or_false] at hd
  rcases hd with rfl | rfl
  · refine (Shn.lst (w := 8) (k := 0) (n := 4) (fun d hd => ?_) (by simpa using hz)).mono (by omega) (by omega)
    obtain ⟨l, hl, rfl⟩ := List.mem_map.mp hd
    exact Shn.str (hp l hl).1 (hp l hl).2
  · exact (Shn.lst (w := 400) (k := 4) (n := 41) (fun x h => (hx x h).2) (by omega)).mono (by omega) (by omega)
abbrev SL := Dx.Slot
theorem thing_ok {ls : List (List Nat)} (hp : VOk 8 ls) (hz : ls.length ≤ 4) {l : List Nat} (hl : IsP l) (hy : l.length ≤ 400) {n : Nat} {d : D} (h : okB n d) (hn : n ≤ 41) (a b c e f g i j k : SL) :
    S.foB bl_law_1 (G.name 9) d [a, b, c, .tr (.lst (ls.map tS)), e, f, g, .tr (tS l), i, j, k] = .ok .nx [a, b, c, .tr (.lst (ls.map tS)), e, f, g, .tr (tS l), i, .tr d, k] := by
  obtain ⟨h1, h2⟩ := h.dv (by omega)
  have e1 := law_right_ok hp (by omega) hl hy h1 h2 (shn_all hp hz h hn) (by omega) (by omega)
  simp [bl_law_1, e1]
theorem word_ok {ls : List (List Nat)} (hp : VOk 8 ls) (hz : ls.length ≤ 4) {l : List Nat} (hl : IsP l) (hy : l.length ≤ 400) {ds row : List D} (h : Pool ds) (hr : ∀ x ∈ row, OdP x) (hn : row.length ≤ 14) (a b f g x7 x8 x9 : SL) :
    ∃ ds' y8 y9, Pool ds' ∧ S.foB bl_law_2 (G.name 7) (tS l) [a, b, .ol false ds, .tr (.lst (ls.map tS)), .tr (.lst row), f, g, x7, x8, x9, .un] = .ok .nx [a, b, .ol false ds', .tr (.lst (ls.map tS)), .tr (.lst row), f, g, .tr (tS l), y8, y9, .un] := by
  obtain ⟨d1, ds1, q1, P1, e1⟩ := bent_ok h hr (by omega) ls.length (by omega)
  obtain ⟨d2, ds2, q2, P2, e2⟩ := bent_ok P1 hr (by omega) ls.length (by omega)
  have lc : lcR [10] (G.name 10) T.yes ce_law_1 (I.upD 0 2) [a, b, .ol false ds, .tr (.lst (ls.map tS)), .tr (.lst row), f, g, .tr (tS l), x8, x9, .un] =
     .ok [d1, d2] [a, b, .ol false ds2, .tr (.lst (ls.map tS)), .tr (.lst row), f, g, .tr (tS l), x8, x9, .un] := by
    simp [I.upD, List.range_succ, ce_law_1, e1, e2]
  have all : ∀ t ∈ [D.lst row, d1, d2], okB 41 t := by
    intro t ht
    simp only [List.mem_cons, List.not_mem_nil, or_false] at ht
    rcases ht with rfl | rfl | rfl
    · exact ⟨row, rfl, by omega, hr⟩
    · exact q1
    · exact q2
  obtain ⟨ρ', e3, ⟨y9, rfl⟩⟩ := forR_inv (B := S.foB bl_law_1 (G.name 9)) [D.lst row, d1, d2]
    (fun _ ρ => ∃ y9, ρ = [a, b, .ol false ds2, .tr (.lst (ls.map tS)), .tr (.lst row), f, g, .tr (tS l), .ol false [d1, d2], y9, .un]) 0 _ ⟨x9, rfl⟩ (by
      rintro q t ρ ht ⟨y, rfl⟩
      exact ⟨_, thing_ok hp hz hl hy (all t (List.mem_of_getElem? ht)) (Nat.le_refl _) .., _, rfl⟩)
  refine ⟨ds2, .ol false [d1, d2], y9, P2, ?_⟩
  simp [bl_law_2, lc, e3, -lcR, -forR]
theorem other_ok {ls : List (List Nat)} (hp : VOk 8 ls) (hz : ls.length ≤ 4) {l : List Nat} (hl : IsP l) (row : List D) : ∀ t ∈ [D.non, .tup row, .str (Str.ofString ""), .str (Str.ofString "generator 0"), .dct [], .int 0, .bl true, .tup [.lst row], .lst [.lst row]],
    m_check_derivation [.tup (ls.map tS), tS (l.take 400), t] = .ok (.t (.bl false)) [] := by
  intro t ht
  obtain ⟨P1, P2, P3⟩ := small_red hp
  have dv : okDv t ∧ drv (ls.map red) (red (l.take 400)) t = false := by
    simp only [List.mem_cons, List.not_mem_nil, or_false] at ht
    have no : ∀ t : D, (∃ z, t.tyc = some z) → (∀ ds, t ≠ .scr ds) → (∀ ds, t ≠ .lst ds) → okDv t := fun t h1 h2 h3 => ⟨h1, h2, fun ds e => absurd e (h3 ds)⟩
    rcases ht with rfl | rfl | rfl | rfl | rfl | rfl | rfl | rfl | rfl
    · exact ⟨no _ ⟨.non, rfl⟩ (fun _ e => by cases e) (fun _ e => by cases e), rfl⟩
    · exact ⟨no _ ⟨.tup, rfl⟩ (fun _ e => by cases e) (fun _ e => by cases e), rfl⟩
    · exact ⟨no _ ⟨.str, rfl⟩ (fun _ e => by cases e) (fun _ e => by cases e), rfl⟩
    · exact ⟨no _ ⟨.str, rfl⟩ (fun _ e => by cases e) (fun _ e => by cases e), rfl⟩
    · exact ⟨no _ ⟨.dct, rfl⟩ (fun _ e => by cases e) (fun _ e => by cases e), rfl⟩
    · exact ⟨no _ ⟨.int, rfl⟩ (fun _ e => by cases e) (fun _ e => by cases e), rfl⟩
    · exact ⟨no _ ⟨.bl, rfl⟩ (fun _ e => by cases e) (fun _ e => by cases e), rfl⟩
    · exact ⟨no _ ⟨.tup, rfl⟩ (fun _ e => by cases e) (fun _ e => by cases e), rfl⟩
    · refine ⟨⟨⟨.lst, rfl⟩, (fun _ e => by cases e), fun ds e => by cases e; exact ⟨by simp, fun x hx => by rw [List.mem_singleton.mp hx]; exact ⟨⟨.lst, rfl⟩, fun _ e => by cases e⟩⟩⟩, ?_⟩
      simp [drv, runV, lnB]
  have := check_derivation_ok false P3 (by omega) (l := l.take 400) (fun c hc => hl c (List.mem_of_mem_take hc)) (by simp; omega) dv.1
  rw [dv.2] at this
  exact this
theorem lastV_ok {ws : List (List Nat)} (h : VOk 1000 ws) : IsP (lastV ws) ∧ (lastV ws).length ≤ 1000 := by
  unfold lastV
  have m := List.getLast_mem (show ([] :: ws : List (List Nat)) ≠ [] by simp)
  rcases List.mem_cons.mp m with e | m
  · rw [e]; exact ⟨IsP.nil, by simp⟩
  · exact h _ m
theorem runV_ok {ps : List (List Nat)} (hp : VOk 60 ps) : ∀ {ds : List D} {vs ws : List (List Nat)}, VOk 1000 vs → runV ps vs ds = some ws → VOk 1000 ws
  | [], vs, ws, h, e => by cases e; exact h
  | d :: ds, vs, ws, h, e => by
    rw [runV] at e
    split at e
    · rename_i c
      exact runV_ok hp (h.snoc ⟨(hp.val h d).1, c.2⟩) e
    · cases e
theorem turn_ok (ns : List Int) (h : ns.length ≤ 63) (k : Nat) (hk : k ≤ 19) (x1 x2 x3 x4 x5 x6 x7 x8 x9 : SL) :
    ∃ y2 y3 y4 y5 y6 y7 y8 y9, S.foB bl_law_4 (G.name 1) (.int k) [.tr (.scr (ns.map D.int)), x1, x2, x3, x4, x5, x6, x7, x8, x9, .un] =
      .ok .nx [.tr (.scr (ns.map D.int)), .tr (.int k), y2, y3, y4, y5, y6, y7, y8, y9, .un] := by
  obtain ⟨ds, P, e1⟩ := pool_ok ns h k (by omega)
  obtain ⟨t, ds0, ht, P0, e0⟩ := take_ok P 3 (by omega) (by omega)
  have e0' : m_law_take ds [.int 3] = .ok (.t (.int t)) ds0 := e0
  obtain ⟨ls, ds1, hl, hz, P1, e2⟩ := generators_ok P0 4 8 (1 + t) (by omega) (by omega) (by omega) (by omega)
  have e2' : m_law_generators ds0 [.int 4, .int 8, .int (1 + (t : Int))] = .ok (.f (ls.map tS)) ds1 := by
    have : ((1 + t : Nat) : Int) = 1 + (t : Int) := by omega
    rw [← this]; exact e2
  have hp : VOk 8 ls := hl
  obtain ⟨row, ds2, hr, hn, P2, e3⟩ := drawn_ok P1 ls.length (by omega)
  have hr' : ∀ x ∈ row, OdP x := fun x hx => (hr x hx).od
  have dv := (show okB 14 (.lst row) from ⟨row, rfl, hn, hr'⟩).dv (by omega)
  obtain ⟨Q1, Q2, Q3⟩ := small_red hp
  have e4 := law_value_ok Q1 Q2 dv.1 fun ds e => by cases e; omega
  obtain ⟨v, hv, lv, e5⟩ : ∃ v : List Nat, IsP v ∧ v.length ≤ 1000 ∧ (laW (ls.map red) (.lst row) = .t (tS v) ∨ (laW (ls.map red) (.lst row) = .t .non ∧ v = [])) := by
    rw [laW]
    cases q : runV (ls.map red) [] row with
    | none => exact ⟨[], IsP.nil, by simp, .inr ⟨rfl, rfl⟩⟩
    | some ws =>
      have := lastV_ok (runV_ok Q2 (fun _ h => by cases h) q)
      exact ⟨lastV ws, this.1, this.2, .inl rfl⟩
  obtain ⟨w3, ds3, hw3, lw3, P3, e6⟩ := path_ok P2 8 2 (by omega) (by omega) (by omega)
  have e6' : m_law_path ds2 [.int 8, .int 2] = .ok (.t (tS w3)) ds3 := e6
  have sD : Str.ofString "dD" = S [100, 68] := by decide +kernel
  have sA : Str.ofString "a" = S [97] := by decide +kernel
  have walk : ∀ (words : List (List Nat)), (∀ w ∈ words, IsP w ∧ w.length ≤ 400) → ∃ ds' y7 y8 y9, forR (S.foB bl_law_2 (G.name 7)) (words.map tS) [.tr (.scr (ns.map D.int)), .tr (.int k), .ol false ds3, .tr (.lst (ls.map tS)), .tr (.lst row), .tr (tS v), .tr (tS w3), x7, x8, x9, .un] =
      .ok .nx [.tr (.scr (ns.map D.int)), .tr (.int k), .ol false ds', .tr (.lst (ls.map tS)), .tr (.lst row), .tr (tS v), .tr (tS w3), y7, y8, y9, .un] := fun words hw => by
    obtain ⟨ρ', e8, ⟨ds5, y7, y8, y9, P5, rfl⟩⟩ := forR_inv (B := S.foB bl_law_2 (G.name 7)) (words.map tS)
      (fun _ ρ => ∃ ds' y7 y8 y9, Pool ds' ∧ ρ = [.tr (.scr (ns.map D.int)), .tr (.int k), .ol false ds', .tr (.lst (ls.map tS)), .tr (.lst row), .tr (tS v), .tr (tS w3), y7, y8, y9, .un]) 0 _ ⟨ds3, x7, x8, x9, P3, rfl⟩ (by
        rintro q t ρ ht ⟨ds', y7, y8, y9, P', rfl⟩
        obtain ⟨w, hw', rfl⟩ := List.mem_map.mp (List.mem_of_getElem? ht)
        obtain ⟨ds'', z8, z9, P'', e⟩ := word_ok hp hz (hw w hw').1 (hw w hw').2 P' hr' hn (.tr (.scr (ns.map D.int))) (.tr (.int k)) (.tr (tS v)) (.tr (tS w3)) y7 y8 y9
        exact ⟨_, e, ds'', _, _, _, P'', rfl⟩)
    exact ⟨ds5, y7, y8, y9, e8⟩
  have ot := other_ok hp hz hv row
  have cut : cutS (S v) none (some 400) = S (v.take 400) := cut_to v 400
  have last (a b c d e f g : SL) (y9 : SL) : ∃ z9, forR (S.foB bl_law_3 (G.name 9)) [D.non, .tup row, .str (Str.ofString ""), .str (Str.ofString "generator 0"), .dct [], .int 0, .bl true, .tup [.lst row], .lst [.lst row]] [a, b, c, .tr (.lst (ls.map tS)), d, .tr (tS v), e, f, g, y9, .un] =
      .ok .nx [a, b, c, .tr (.lst (ls.map tS)), d, .tr (tS v), e, f, g, z9, .un] := by
    obtain ⟨ρ', e8, ⟨y9, rfl⟩⟩ := forR_inv (B := S.foB bl_law_3 (G.name 9)) [D.non, .tup row, .str (Str.ofString ""), .str (Str.ofString "generator 0"), .dct [], .int 0, .bl true, .tup [.lst row], .lst [.lst row]]
      (fun _ ρ => ∃ y9, ρ = [a, b, c, .tr (.lst (ls.map tS)), d, .tr (tS v), e, f, g, y9, .un]) 0 _ ⟨y9, rfl⟩ (by
        rintro q t ρ ht ⟨y, rfl⟩
        have := ot t (List.mem_of_getElem? ht)
        exact ⟨[a, b, c, .tr (.lst (ls.map tS)), d, .tr (tS v), e, f, g, .tr t, .un], by simp [bl_law_3, cut, S_len, show v.length ≤ 16000000 by omega, this], _, rfl⟩)
    exact ⟨y9, e8⟩
  obtain ⟨w, e4', o1⟩ : ∃ w : D, m_law_value [.lst (ls.map tS), .lst row] = .ok (.t w) [] ∧ ∀ ρ, E.orR (E.k (.str (S []))) (.t w) ρ = .ok (.t (tS v)) ρ := by
    rcases e5 with e5 | ⟨e5, rfl⟩
    · rw [e5] at e4
      refine ⟨tS v, e4, fun ρ => ?_⟩
      cases v with
      | nil => simp [S_len]
      | cons c v =>
        have l1 : v.length ≤ 16777215 := by simp at lv; omega
        have l2 : ((v.length : Int) + 1 != 0) = true := by simp; omega
        simp [S_len, l1, l2]
    · rw [e5] at e4
      exact ⟨.non, e4, fun ρ => by simp⟩
  by_cases c : v.length < 390
  · have k1 : cutS (S v) none (some 3) = S (v.take 3) := cut_to v 3
    have k2 : cutS (S v) (some 3) none = S (v.drop 3) := cut_from v 3
    have k4 : (v.drop 3).length ≤ 390 := by simp; omega
    have k5 : (v.take 3).length ≤ 390 := by simp; omega
    have k6 : (v.take 3).length + (v.drop 3).length = v.length := by simp; omega
    have IC : IsP (v.take 3 ++ (100 :: 68 :: v.drop 3)) := (fun c hc => by
      rcases List.mem_append.mp hc with h | h
      · exact hv c (List.mem_of_mem_take h)
      · rcases List.mem_cons.mp h with rfl | h
        · decide
        · rcases List.mem_cons.mp h with rfl | h
          · decide
          · exact hv c (List.mem_of_mem_drop h))
    obtain ⟨ds5, y7, y8, y9, e8⟩ := walk [v, v.take 3 ++ (100 :: 68 :: v.drop 3), w3, v ++ [97], []] (fun w hw => by
      simp only [List.mem_cons, List.not_mem_nil, or_false] at hw
      rcases hw with rfl | rfl | rfl | rfl | rfl
      · exact ⟨hv, by omega⟩
      · exact ⟨IC, by simp only [List.length_append, List.length_cons]; omega⟩
      · exact ⟨hw3, by omega⟩
      · exact ⟨hv.app (IsP.one (by decide)), by simp; omega⟩
      · exact ⟨IsP.nil, by simp⟩)
    obtain ⟨z9, e9⟩ := last (.tr (.scr (ns.map D.int))) (.tr (.int k)) (.ol false ds5) (.tr (.lst row)) (.tr (tS w3)) y7 y8 y9
    simp only [List.map_cons, List.map_nil] at e8
    generalize v.take 3 = u1 at k1 k5 k6 e8
    generalize v.drop 3 = u2 at k2 k4 k6 e8
    refine ⟨.ol false ds5, .tr (.lst (ls.map tS)), .tr (.lst row), .tr (tS v), .tr (tS w3), y7, y8, z9, ?_⟩
    simp only [lit0] at e9
    simp [bl_law_4, e1, e0', e2', e3, e4', o1, e6', e8, e9, lit0, sD, sA, k1, k2, S_app, S_len, c, show v.length ≤ 16000000 by omega, show v.length ≤ 15999999 by omega, show (v.length : Int) < 390 by omega, -q_E_orR_1, -forR, -lcR, show u1.length ≤ 15999998 by omega, show u1.length + 2 ≤ 16000000 by omega, show u1.length + 1 + 1 + u2.length ≤ 16000000 by omega, show u1.length + 2 + u2.length ≤ 16000000 by omega, show u1.length + (u2.length + 1 + 1) ≤ 16000000 by omega]
  · obtain ⟨ds5, y7, y8, y9, e8⟩ := walk [w3] (fun w hw => by rw [List.mem_singleton.mp hw]; exact ⟨hw3, by omega⟩)
    obtain ⟨z9, e9⟩ := last (.tr (.scr (ns.map D.int))) (.tr (.int k)) (.ol false ds5) (.tr (.lst row)) (.tr (tS w3)) y7 y8 y9
    simp only [List.map_cons, List.map_nil] at e8
    refine ⟨.ol false ds5, .tr (.lst (ls.map tS)), .tr (.lst row), .tr (tS v), .tr (tS w3), y7, y8, z9, ?_⟩
    simp only [lit0] at e9
    simp [bl_law_4, e1, e0', e2', e3, e4', o1, e6', e8, e9, lit0, S_len, c, show v.length ≤ 16000000 by omega, show ¬ (v.length : Int) < 390 by omega, -q_E_orR_1, -forR, -lcR]
theorem law_true (ns : List Int) (h : ns.length ≤ 63) : m_law [.scr (ns.map D.int)] = .ok (.t (.bl true)) [] := by
  obtain ⟨ds, P, e1⟩ := pool_ok ns h 0 (by omega)
  have e1' : m_law_pool [.scr (ns.map D.int), .int 0] = .ok (.f ds) [] := e1
  obtain ⟨ds', e2⟩ := limits_ok P
  obtain ⟨ρ', e, ⟨x1, x2, x3, x4, x5, x6, x7, x8, x9, rfl⟩⟩ := forR_inv (B := S.foB bl_law_4 (G.name 1)) (I.upD 0 (Max.max 1 (Min.min 8 ns.length)))
    (fun _ ρ => ∃ x1 x2 x3 x4 x5 x6 x7 x8 x9, ρ = [.tr (.scr (ns.map D.int)), x1, x2, x3, x4, x5, x6, x7, x8, x9, .un]) 0 _ ⟨.un, .un, .un, .un, .un, .un, .un, .un, .un, rfl⟩ (by
      rintro q t ρ ht ⟨x1, x2, x3, x4, x5, x6, x7, x8, x9, rfl⟩
      obtain ⟨hq, rfl⟩ := upD_at ht
      obtain ⟨y2, y3, y4, y5, y6, y7, y8, y9, e⟩ := turn_ok ns h q (by omega) x1 x2 x3 x4 x5 x6 x7 x8 x9
      rw [Int.zero_add]
      exact ⟨_, e, _, _, _, _, _, _, _, _, _, rfl⟩)
  simp [m_law, b_law, e1', e2, e, show (-4611686018427387904 : Int) ≤ Max.max 1 (Min.min 8 (ns.length : Int)) by omega, show Max.max 1 (Min.min 8 (ns.length : Int)) < (4611686018427387904 : Int) by omega, show (Max.max 1 (Min.min 8 (ns.length : Int))).toNat = Max.max 1 (Min.min 8 ns.length) by omega, -forR]
def topS (i : Nat) : Stmt := PySem.Challenge.pw_walkshome_k21_derivation_checker.main.body.getD i (.Pass ⟨0, 0, 0, 0⟩)
abbrev s_InvalidPaths___init__ : Stmt := inClass (topS 3) 0
abbrev s_is_path : Stmt := topS 11
abbrev s_require_paths : Stmt := topS 16
abbrev s_LimitExceeded___init__ : Stmt := inClass (topS 4) 0
abbrev s_reduce_all : Stmt := topS 13
abbrev s_reduced_generator : Stmt := topS 17
abbrev s_reduced_generators : Stmt := topS 18
abbrev s_is_integer : Stmt := topS 10
abbrev s_is_line : Stmt := topS 22
abbrev s_inverted : Stmt := topS 14
abbrev s_line_values : Stmt := topS 23
abbrev s_derives : Stmt := topS 24
abbrev s_InvalidPath___init__ : Stmt := inClass (topS 2) 0
abbrev s_require_path : Stmt := topS 12
abbrev s_reduced : Stmt := topS 15
abbrev s_check_derivation : Stmt := topS 25
abbrev s_law_take : Stmt := topS 28
abbrev s_law_limits_right : Stmt := topS 41
abbrev s_law_pool : Stmt := topS 27
abbrev s_law_path : Stmt := topS 29
abbrev s_law_generators : Stmt := topS 33
abbrev s_law_drawn : Stmt := topS 37
abbrev s_law_is_number : Stmt := topS 34
abbrev s_law_is_line : Stmt := topS 35
abbrev s_law_inverse_step : Stmt := topS 30
abbrev s_law_reduced : Stmt := topS 32
abbrev s_law_inverse : Stmt := topS 31
abbrev s_law_value : Stmt := topS 36
abbrev s_law_odd : Stmt := topS 38
abbrev s_law_bent : Stmt := topS 39
abbrev s_law_right : Stmt := topS 40
abbrev s_law : Stmt := topS 42
structure Ad where
  a_InvalidPaths___init__ : Addr
  d_InvalidPaths___init__ : FuncData
  a_is_path : Addr
  d_is_path : FuncData
  a_require_paths : Addr
  d_require_paths : FuncData
  a_LimitExceeded___init__ : Addr
  d_LimitExceeded___init__ : FuncData
  a_reduce_all : Addr
  d_reduce_all : FuncData
  a_reduced_generator : Addr
  d_reduced_generator : FuncData
  a_reduced_generators : Addr
  d_reduced_generators : FuncData
  a_is_integer : Addr
  d_is_integer : FuncData
  a_is_line : Addr
  d_is_line : FuncData
  a_inverted : Addr
  d_inverted : FuncData
  a_line_values : Addr
  d_line_values : FuncData
  a_derives : Addr
  d_derives : FuncData
  a_InvalidPath___init__ : Addr
  d_InvalidPath___init__ : FuncData
  a_require_path : Addr
  d_require_path : FuncData
  a_reduced : Addr
  d_reduced : FuncData
  a_check_derivation : Addr
  d_check_derivation : FuncData
  a_law_take : Addr
  d_law_take : FuncData
  a_law_limits_right : Addr
  d_law_limits_right : FuncData
  a_law_pool : Addr
  d_law_pool : FuncData
  a_law_path : Addr
  d_law_path : FuncData
  a_law_generators : Addr
  d_law_generators : FuncData
  a_law_drawn : Addr
  d_law_drawn : FuncData
  a_law_is_number : Addr
  d_law_is_number : FuncData
  a_law_is_line : Addr
  d_law_is_line : FuncData
  a_law_inverse_step : Addr
  d_law_inverse_step : FuncData
  a_law_reduced : Addr
  d_law_reduced : FuncData
  a_law_inverse : Addr
  d_law_inverse : FuncData
  a_law_value : Addr
  d_law_value : FuncData
  a_law_odd : Addr
  d_law_odd : FuncData
  a_law_bent : Addr
  d_law_bent : FuncData
  a_law_right : Addr
  d_law_right : FuncData
  a_law : Addr
  d_law : FuncData
  k_InvalidPath : Addr
  k_InvalidPaths : Addr
  k_LimitExceeded : Addr
  k_PathError : Addr
structure Txt (K : PySem.W.Frag) (mg : Str → Option Value) (A : Ad) : Prop where
  f_InvalidPaths___init__ : Fun K "__init__" "InvalidPaths.__init__" s_InvalidPaths___init__ A.a_InvalidPaths___init__ A.d_InvalidPaths___init__
  b_InvalidPaths___init__ : Binds K A.d_InvalidPaths___init__ ["self", "index"] []
  f_is_path : Fun K "is_path" "is_path" s_is_path A.a_is_path A.d_is_path
  g_is_path : mg "is_path" = some (.ref A.a_is_path)
  b_is_path : Binds K A.d_is_path ["value"] []
  f_require_paths : Fun K "require_paths" "require_paths" s_require_paths A.a_require_paths A.d_require_paths
  g_require_paths : mg "require_paths" = some (.ref A.a_require_paths)
  b_require_paths : Binds K A.d_require_paths ["paths", "most"] []
  f_LimitExceeded___init__ : Fun K "__init__" "LimitExceeded.__init__" s_LimitExceeded___init__ A.a_LimitExceeded___init__ A.d_LimitExceeded___init__
  b_LimitExceeded___init__ : Binds K A.d_LimitExceeded___init__ ["self", "limit"] []
  f_reduce_all : Fun K "reduce_all" "reduce_all" s_reduce_all A.a_reduce_all A.d_reduce_all
  g_reduce_all : mg "reduce_all" = some (.ref A.a_reduce_all)
  b_reduce_all : Binds K A.d_reduce_all ["parts"] []
  f_reduced_generator : Fun K "reduced_generator" "reduced_generator" s_reduced_generator A.a_reduced_generator A.d_reduced_generator
  g_reduced_generator : mg "reduced_generator" = some (.ref A.a_reduced_generator)
  b_reduced_generator : Binds K A.d_reduced_generator ["path"] []
  f_reduced_generators : Fun K "reduced_generators" "reduced_generators" s_reduced_generators A.a_reduced_generators A.d_reduced_generators
  g_reduced_generators : mg "reduced_generators" = some (.ref A.a_reduced_generators)
  b_reduced_generators : Binds K A.d_reduced_generators ["generators"] []
  f_is_integer : Fun K "is_integer" "is_integer" s_is_integer A.a_is_integer A.d_is_integer
  g_is_integer : mg "is_integer" = some (.ref A.a_is_integer)
  b_is_integer : Binds K A.d_is_integer ["value"] []
  f_is_line : Fun K "is_line" "is_line" s_is_line A.a_is_line A.d_is_line
  g_is_line : mg "is_line" = some (.ref A.a_is_line)
  b_is_line : Binds K A.d_is_line ["value", "number", "generator_count"] []
  f_inverted : Fun K "inverted" "inverted" s_inverted A.a_inverted A.d_inverted
  g_inverted : mg "inverted" = some (.ref A.a_inverted)
  b_inverted : Binds K A.d_inverted ["steps"] []
  f_line_values : Fun K "line_values" "line_values" s_line_values A.a_line_values A.d_line_values
  g_line_values : mg "line_values" = some (.ref A.a_line_values)
  b_line_values : Binds K A.d_line_values ["paths", "derivation"] []
  f_derives : Fun K "derives" "derives" s_derives A.a_derives A.d_derives
  g_derives : mg "derives" = some (.ref A.a_derives)
  b_derives : Binds K A.d_derives ["paths", "path", "derivation"] []
  f_InvalidPath___init__ : Fun K "__init__" "InvalidPath.__init__" s_InvalidPath___init__ A.a_InvalidPath___init__ A.d_InvalidPath___init__
  b_InvalidPath___init__ : Binds K A.d_InvalidPath___init__ ["self", "value"] []
  f_require_path : Fun K "require_path" "require_path" s_require_path A.a_require_path A.d_require_path
  g_require_path : mg "require_path" = some (.ref A.a_require_path)
  b_require_path : Binds K A.d_require_path ["value"] []
  f_reduced : Fun K "reduced" "reduced" s_reduced A.a_reduced A.d_reduced
  g_reduced : mg "reduced" = some (.ref A.a_reduced)
  b_reduced : Binds K A.d_reduced ["path"] []
  f_check_derivation : Fun K "check_derivation" "check_derivation" s_check_derivation A.a_check_derivation A.d_check_derivation
  g_check_derivation : mg "check_derivation" = some (.ref A.a_check_derivation)
  b_check_derivation : Binds K A.d_check_derivation ["generators", "path", "derivation"] []
  f_law_take : Fun K "_law_take" "_law_take" s_law_take A.a_law_take A.d_law_take
  g_law_take : mg "_law_take" = some (.ref A.a_law_take)
  b_law_take : Binds K A.d_law_take ["_law_pool_here", "_law_many"] []
  f_law_limits_right : Fun K "_law_limits_right" "_law_limits_right" s_law_limits_right A.a_law_limits_right A.d_law_limits_right
  g_law_limits_right : mg "_law_limits_right" = some (.ref A.a_law_limits_right)
  b_law_limits_right : Binds K A.d_law_limits_right ["_law_pool_here"] []
  f_law_pool : Fun K "_law_pool" "_law_pool" s_law_pool A.a_law_pool A.d_law_pool
  g_law_pool : mg "_law_pool" = some (.ref A.a_law_pool)
  b_law_pool : Binds K A.d_law_pool ["_law_script", "_law_k"] []
  f_law_path : Fun K "_law_path" "_law_path" s_law_path A.a_law_path A.d_law_path
  g_law_path : mg "_law_path" = some (.ref A.a_law_path)
  b_law_path : Binds K A.d_law_path ["_law_pool_here", "_law_most", "_law_letters"] []
  f_law_generators : Fun K "_law_generators" "_law_generators" s_law_generators A.a_law_generators A.d_law_generators
  g_law_generators : mg "_law_generators" = some (.ref A.a_law_generators)
  b_law_generators : Binds K A.d_law_generators ["_law_pool_here", "_law_many", "_law_most", "_law_letters"] []
  f_law_drawn : Fun K "_law_drawn" "_law_drawn" s_law_drawn A.a_law_drawn A.d_law_drawn
  g_law_drawn : mg "_law_drawn" = some (.ref A.a_law_drawn)
  b_law_drawn : Binds K A.d_law_drawn ["_law_pool_here", "_law_many"] []
  f_law_is_number : Fun K "_law_is_number" "_law_is_number" s_law_is_number A.a_law_is_number A.d_law_is_number
  g_law_is_number : mg "_law_is_number" = some (.ref A.a_law_is_number)
  b_law_is_number : Binds K A.d_law_is_number ["_law_thing", "_law_most"] []
  f_law_is_line : Fun K "_law_is_line" "_law_is_line" s_law_is_line A.a_law_is_line A.d_law_is_line
  g_law_is_line : mg "_law_is_line" = some (.ref A.a_law_is_line)
  b_law_is_line : Binds K A.d_law_is_line ["_law_line", "_law_number", "_law_many"] []
  f_law_inverse_step : Fun K "_law_inverse_step" "_law_inverse_step" s_law_inverse_step A.a_law_inverse_step A.d_law_inverse_step
  g_law_inverse_step : mg "_law_inverse_step" = some (.ref A.a_law_inverse_step)
  b_law_inverse_step : Binds K A.d_law_inverse_step ["_law_step"] []
  f_law_reduced : Fun K "_law_reduced" "_law_reduced" s_law_reduced A.a_law_reduced A.d_law_reduced
  g_law_reduced : mg "_law_reduced" = some (.ref A.a_law_reduced)
  b_law_reduced : Binds K A.d_law_reduced ["_law_path_here"] []
  f_law_inverse : Fun K "_law_inverse" "_law_inverse" s_law_inverse A.a_law_inverse A.d_law_inverse
  g_law_inverse : mg "_law_inverse" = some (.ref A.a_law_inverse)
  b_law_inverse : Binds K A.d_law_inverse ["_law_path_here"] []
  f_law_value : Fun K "_law_value" "_law_value" s_law_value A.a_law_value A.d_law_value
  g_law_value : mg "_law_value" = some (.ref A.a_law_value)
  b_law_value : Binds K A.d_law_value ["_law_paths", "_law_derivation"] []
  f_law_odd : Fun K "_law_odd" "_law_odd" s_law_odd A.a_law_odd A.d_law_odd
  g_law_odd : mg "_law_odd" = some (.ref A.a_law_odd)
  b_law_odd : Binds K A.d_law_odd ["_law_pool_here", "_law_at", "_law_many"] []
  f_law_bent : Fun K "_law_bent" "_law_bent" s_law_bent A.a_law_bent A.d_law_bent
  g_law_bent : mg "_law_bent" = some (.ref A.a_law_bent)
  b_law_bent : Binds K A.d_law_bent ["_law_pool_here", "_law_derivation", "_law_many"] []
  f_law_right : Fun K "_law_right" "_law_right" s_law_right A.a_law_right A.d_law_right
  g_law_right : mg "_law_right" = some (.ref A.a_law_right)
  b_law_right : Binds K A.d_law_right ["_law_paths", "_law_path_here", "_law_derivation"] []
  f_law : Fun K "law" "law" s_law A.a_law A.d_law
  g_law : mg "law" = some (.ref A.a_law)
  b_law : Binds K A.d_law ["_law_script"] []
  c_MAX_GENERATORS : ∃ t, mg "MAX_GENERATORS" = some (.int 16 t)
  c_MAX_GENERATOR_STEPS : ∃ t, mg "MAX_GENERATOR_STEPS" = some (.int 60 t)
  c_MAX_LINES : ∃ t, mg "MAX_LINES" = some (.int 60000 t)
  c_MAX_STEPS : ∃ t, mg "MAX_STEPS" = some (.int 400 t)
  c_MAX_VALUE_STEPS : ∃ t, mg "MAX_VALUE_STEPS" = some (.int 1000 t)
  c_STEPS : ∃ t, mg "STEPS" = some (.str "aAbBcCdD" t)
  z_OverflowError : mg "OverflowError" = none
  z_all : mg "all" = none
  z_bool : mg "bool" = none
  z_enumerate : mg "enumerate" = none
  z_int : mg "int" = none
  z_isinstance : mg "isinstance" = none
  z_len : mg "len" = none
  z_list : mg "list" = none
  z_max : mg "max" = none
  z_min : mg "min" = none
  z_range : mg "range" = none
  z_repr : mg "repr" = none
  z_str : mg "str" = none
  z_tuple : mg "tuple" = none
  g_InvalidPath : mg "InvalidPath" = some (.ref A.k_InvalidPath)
  g_InvalidPaths : mg "InvalidPaths" = some (.ref A.k_InvalidPaths)
  g_LimitExceeded : mg "LimitExceeded" = some (.ref A.k_LimitExceeded)
  g_PathError : mg "PathError" = some (.ref A.k_PathError)
  x_InvalidPath : Xc K ebV A.k_InvalidPath
  x_InvalidPaths : Xc K ebV A.k_InvalidPaths
  x_LimitExceeded : Xc K ebO A.k_LimitExceeded
  i_InvalidPath : PySem.W.findIn K (.ref A.k_InvalidPath) "__init__" = some (some (.ref A.a_InvalidPath___init__))
  t_InvalidPath : PySem.W.typeIn K (.ref A.a_InvalidPath___init__) = some (.type "function")
  i_InvalidPaths : PySem.W.findIn K (.ref A.k_InvalidPaths) "__init__" = some (some (.ref A.a_InvalidPaths___init__))
  t_InvalidPaths : PySem.W.typeIn K (.ref A.a_InvalidPaths___init__) = some (.type "function")
  i_LimitExceeded : PySem.W.findIn K (.ref A.k_LimitExceeded) "__init__" = some (some (.ref A.a_LimitExceeded___init__))
  t_LimitExceeded : PySem.W.typeIn K (.ref A.a_LimitExceeded___init__) = some (.type "function")
  n_InvalidPath_value : PySem.W.findIn K (.ref A.k_InvalidPath) "value" = some none
  n_InvalidPaths_index : PySem.W.findIn K (.ref A.k_InvalidPaths) "index" = some none
  n_LimitExceeded_limit : PySem.W.findIn K (.ref A.k_LimitExceeded) "limit" = some none
  v_OverflowError : PySem.W.findCls K (.type "OverflowError") (.type "type") "__init__" = some (.val (.builtin "OverflowError.__init__"))
  s_PathError : PySem.W.specialIn K (.ref A.k_PathError) "__getattribute__" = some (some (.builtin "type.__getattribute__"))
  r_PathError : PySem.W.readsIn K A.k_PathError (.type "type") = true
  v_PathError : PySem.W.findCls K (.ref A.k_PathError) (.type "type") "__init__" = some (.val (.builtin "ValueError.__init__"))
section
variable {P : Program} {w : World} {K : PySem.W.Frag} {mg : Str → Option Value} {base : Heap} {A : Ad}
theorem sc_InvalidPaths___init__ : FnScope ["self", "index"] ["self", "index"] (defScope s_InvalidPaths___init__) := ⟨rfl, rfl, rfl, by decide +kernel, rfl, by decide +kernel, by decide +kernel⟩
def nm_InvalidPaths___init__ : List Str := ["self", "index"]
def sp_InvalidPaths___init__ (_ : PySem.W.Frag) (A : Ad) : Sp := sp_in1 A.k_InvalidPaths "index"
theorem ok_InvalidPaths___init__ (T : Txt K mg A) : FnG P w K mg base CX0 1 A.a_InvalidPaths___init__ A.d_InvalidPaths___init__ ["self", "index"] (sp_InvalidPaths___init__ K A) := by
  refine fn0 T.f_InvalidPaths___init__ sc_InvalidPaths___init__ (fun vs H Q E h => ?_) (fun cdv A_ outer s H vs Q E hr h => ?_)
  · first | (obtain ⟨_, rfl, _⟩ := h; rfl) | (obtain ⟨_, _, rfl, _⟩ := h; rfl) | (obtain ⟨_, _, _, rfl, _⟩ := h; rfl) | (obtain ⟨_, _, _, _, rfl, _⟩ := h; rfl) | (obtain ⟨_, _, _, _, _, rfl, _⟩ := h; rfl) | (obtain ⟨_, _, _, _, _, _, rfl, _⟩ := h; rfl) | (obtain ⟨rfl, _⟩ := h; rfl)
  · obtain ⟨a, v, rfl, ha, q⟩ := h
    refine ⟨_, (pss_cons (ps_expr (pe_iniC ebV_ok (by decide +kernel) (by rfl) T.g_PathError T.s_PathError T.r_PathError T.v_PathError (pa_cons (pv 0) (pa_cons pe_str pa_nil)))) (pss_one (ps_fld ebV_ok (pv 0) (pv 1)))), ?_⟩
    dsimp only [L2.cxOf, L2.Cx.nox, L2.Cx.wish, L2.start, List.map, List.length_cons, List.length_nil, Nat.reduceAdd, Nat.reduceSub, List.replicate, List.cons_append, List.nil_append, nm_InvalidPaths___init__]
    walk_at "hx go"
    refine ⟨a, A.k_InvalidPaths, [_], rfl, by decide, T.x_InvalidPaths, ha, ?_⟩
    walk_at "hx go"
    exact ⟨a, A.k_InvalidPaths, rfl, T.x_InvalidPaths, taker_of T.n_InvalidPaths_index, Or.inl ⟨ha, fun dx nd ne => q dx nd ne⟩⟩

theorem sc_is_path : FnScope ["value", "step"] ["value"] (defScope s_is_path) := ⟨rfl, rfl, rfl, by decide +kernel, rfl, by decide +kernel, by decide +kernel⟩
def nm_is_path : List Str := ["value", "step"]
theorem ok_is_path (T : Txt K mg A) : FnG P w K mg base (L2.CX P w) 1 A.a_is_path A.d_is_path ["value"] (spP K mg 1 m_is_path) := by
  refine fnX T.f_is_path sc_is_path (fun vs H Q E h => h.1) (fun cdv A_ outer s H vs Q E hr h => ?_)
  refine ⟨_, pssA (wx := fun cls d _ H => E cls d H) (b := b_is_path) (fun c => ?_), runP_go (k := 1) rfl h⟩
  exact (pss_one (pd_ret (ps_ret (pd_and (pe_andTK (K := K) rfl (pd_cb d_isa (pe_callB (call_isiUK (K := K) rfl) (by rfl) T.z_isinstance PyProof.Rows.boot_isinstance (pd_acons (pa_cons (pd_var (pv 0)) (pd_acons (pa_cons (pd_c (pe_bltn (v := .ty "str") (by rfl) T.z_str (by decide +kernel) rfl) (fun _ => .ty _)) (pd_anil pa_nil))))))) (pd_and (pe_andTK (K := K) rfl (pd_op2 d_le (pe_cmpR op_le (pd_cb d_len (pe_callB (call_lenUK (K := K) rfl) (by rfl) T.z_len PySem.boot_len (pd_acons (pa_cons (pd_var (pv 0)) (pd_anil pa_nil))))) (pd_cI (pe_gI T.c_MAX_STEPS)) rfl)) (pe_one (pd_cb d_all (pe_callB (call_allK (K := K) rfl rfl) (by rfl) T.z_all PyProof.Rows.boot_all (pd_acons (pa_cons (pd_lc (pe_lc (own := [("step", 1)]) rfl sc_is_path.nd (pd_iof (pi_anyK (K := K) rfl (pd_var (pv 0)))) (blkOk_by (N := nm_is_path) (sc := defScope s_is_path) (by decide +kernel)) (fun _ _ _ _ _ => (pgA fun c => (pd_gname (pg_name (i := 1) sc_is_path.nd rfl (by first | exact Or.inl rfl | exact Or.inr rfl))))) (fun _ _ _ _ _ => ptsN) (fun _ _ _ _ _ => (peA fun c => (pd_op2 d_inn (pe_cmpR (op_innU (K := K) rfl) (pd_var (pv 1)) (pd_cS (pe_gS T.c_STEPS)) rfl)))))) (pd_anil pa_nil)))))))))))))

theorem sc_require_paths : FnScope ["paths", "most", "index", "path"] ["paths", "most"] (defScope s_require_paths) := ⟨rfl, rfl, rfl, by decide +kernel, rfl, by decide +kernel, by decide +kernel⟩
def nm_require_paths : List Str := ["paths", "most", "index", "path"]
theorem ok_require_paths (T : Txt K mg A) : FnG P w K mg base (L2.CX P w) 3 A.a_require_paths A.d_require_paths ["paths", "most"] (spP K mg 2 m_require_paths) := by
  refine fnX T.f_require_paths sc_require_paths (fun vs H Q E h => h.1) (fun cdv A_ outer s H vs Q E hr h => ?_)
  refine ⟨_, pssA (wx := fun cls d _ H => E cls d H) (b := b_require_paths) (fun c => ?_), runP_go (k := 2) rfl h⟩
  exact (pd_seq (pss_cons (pd_ifs (ps_if (PW.pt (pd_tor (pw_or (pd_tnot (pt_not (pd_tval (pt_val (pd_cb d_isa (pe_callB (call_isiUK (K := K) rfl) (by rfl) T.z_isinstance PyProof.Rows.boot_isinstance (pd_acons (pa_cons (pd_var (pv 0)) (pd_acons (pa_cons (pd_tup (pe_tup (pd_acons (pa_cons (pd_c (pe_bltn (v := .ty "list") (by rfl) T.z_list (by decide +kernel) rfl) (fun _ => .ty _)) (pd_acons (pa_cons (pd_c (pe_bltn (v := .ty "tuple") (by rfl) T.z_tuple (by decide +kernel) rfl) (fun _ => .ty _)) (pd_anil pa_nil))))))) (pd_anil pa_nil))))))))))) (pw_or1 (pd_tcmp d_gt (pt_cmpR op_gt (pd_cb d_len (pe_callB (call_lenUK (K := K) rfl) (by rfl) T.z_len PySem.boot_len (pd_acons (pa_cons (pd_var (pv 0)) (pd_anil pa_nil))))) (pd_var (pv 1)) rfl)))))) (pss_one (pd_raise1 T.g_InvalidPaths (ps_raise rfl (takes_of rfl rfl rfl rfl) (pmk_x ebV_ok T.x_InvalidPaths T.i_InvalidPaths T.t_InvalidPaths (ok_InvalidPaths___init__ T) (hr.mono (by decide)) T.b_InvalidPaths___init__ pass0 (by rfl) T.g_InvalidPaths (pd_acons (pa_cons (pd_cN pe_non) (pd_anil pa_nil))))))) (pd_nil pss_nil)))
      (pss_one (pd_fo (ps_for (passes_of rfl) rfl (pd_enum (pi_enA (K := K) rfl (by rfl) T.z_enumerate (pd_acons (pa_cons (pd_var (pv 0)) (pd_anil pa_nil))))) (pd_gtup (pg_tupK (K := K) (n := 2) rfl rfl (pd_gcons (pgs_cons (pd_gname (pg_name (i := 2) sc_require_paths.nd rfl (by first | exact Or.inl rfl | exact Or.inr rfl))) (pd_gcons (pgs_cons (pd_gname (pg_name (i := 3) sc_require_paths.nd rfl (by first | exact Or.inl rfl | exact Or.inr rfl))) (pd_gnil pgs_nil))))))) (pss_one (pd_ifs (ps_if (pd_tnot (pt_not (pd_tval (pt_val (pd_call (pc_try (W := _) (ok_is_path T) (hr.mono (by decide)) (by rfl) T.g_is_path T.f_is_path.kp T.b_is_path (takes_of rfl rfl rfl rfl) (pd_acons (pa_cons (pd_var (pv 3)) (pd_anil pa_nil))))))))) (pss_one (pd_raise1 T.g_InvalidPaths (ps_raise rfl (takes_of rfl rfl rfl rfl) (pmk_x ebV_ok T.x_InvalidPaths T.i_InvalidPaths T.t_InvalidPaths (ok_InvalidPaths___init__ T) (hr.mono (by decide)) T.b_InvalidPaths___init__ pass0 (by rfl) T.g_InvalidPaths (pd_acons (pa_cons (pd_var (pv 2)) (pd_anil pa_nil))))))) (pd_nil pss_nil)))))))))

theorem sc_LimitExceeded___init__ : FnScope ["self", "limit"] ["self", "limit"] (defScope s_LimitExceeded___init__) := ⟨rfl, rfl, rfl, by decide +kernel, rfl, by decide +kernel, by decide +kernel⟩
def nm_LimitExceeded___init__ : List Str := ["self", "limit"]
def sp_LimitExceeded___init__ (_ : PySem.W.Frag) (A : Ad) : Sp := sp_in1 A.k_LimitExceeded "limit"
theorem ok_LimitExceeded___init__ (T : Txt K mg A) : FnG P w K mg base CX0 1 A.a_LimitExceeded___init__ A.d_LimitExceeded___init__ ["self", "limit"] (sp_LimitExceeded___init__ K A) := by
  refine fn0 T.f_LimitExceeded___init__ sc_LimitExceeded___init__ (fun vs H Q E h => ?_) (fun cdv A_ outer s H vs Q E hr h => ?_)
  · first | (obtain ⟨_, rfl, _⟩ := h; rfl) | (obtain ⟨_, _, rfl, _⟩ := h; rfl) | (obtain ⟨_, _, _, rfl, _⟩ := h; rfl) | (obtain ⟨_, _, _, _, rfl, _⟩ := h; rfl) | (obtain ⟨_, _, _, _, _, rfl, _⟩ := h; rfl) | (obtain ⟨_, _, _, _, _, _, rfl, _⟩ := h; rfl) | (obtain ⟨rfl, _⟩ := h; rfl)
  · obtain ⟨a, v, rfl, ha, q⟩ := h
    refine ⟨_, (pss_cons (ps_expr (pe_iniB ebO_ok (by decide +kernel) (by rfl) T.z_OverflowError (by decide +kernel) (by kernel_rfl) (by decide +kernel) T.v_OverflowError (pa_cons (pv 0) (pa_cons pe_str pa_nil)))) (pss_one (ps_fld ebO_ok (pv 0) (pv 1)))), ?_⟩
    dsimp only [L2.cxOf, L2.Cx.nox, L2.Cx.wish, L2.start, List.map, List.length_cons, List.length_nil, Nat.reduceAdd, Nat.reduceSub, List.replicate, List.cons_append, List.nil_append, nm_LimitExceeded___init__]
    walk_at "hx go"
    refine ⟨a, A.k_LimitExceeded, [_], rfl, by decide, T.x_LimitExceeded, ha, ?_⟩
    walk_at "hx go"
    exact ⟨a, A.k_LimitExceeded, rfl, T.x_LimitExceeded, taker_of T.n_LimitExceeded_limit, Or.inl ⟨ha, fun dx nd ne => q dx nd ne⟩⟩

theorem sc_reduce_all : FnScope ["parts", "kept", "part", "step"] ["parts"] (defScope s_reduce_all) := ⟨rfl, rfl, rfl, by decide +kernel, rfl, by decide +kernel, by decide +kernel⟩
def nm_reduce_all : List Str := ["parts", "kept", "part", "step"]
theorem ok_reduce_all (T : Txt K mg A) : FnG P w K mg base (L2.CX P w) 1 A.a_reduce_all A.d_reduce_all ["parts"] (spP K mg 1 m_reduce_all) := by
  refine fnX T.f_reduce_all sc_reduce_all (fun vs H Q E h => h.1) (fun cdv A_ outer s H vs Q E hr h => ?_)
  refine ⟨_, pssA (wx := fun cls d _ H => E cls d H) (b := b_reduce_all) (fun c => ?_), runP_go (k := 3) rfl h⟩
  exact (pd_seq (pss_cons (pd_set (ps_set (i := 1) sc_reduce_all.nd rfl (by first | exact Or.inl rfl | exact Or.inr rfl) (pd_lst (pe_lst (pd_anil pa_nil)))))
      (pd_seq (pss_cons (pd_fo (ps_for (passes_of rfl) rfl (pd_iof (pi_anyK (K := K) rfl (pd_var (pv 0)))) (pd_gname (pg_name (i := 2) sc_reduce_all.nd rfl (by first | exact Or.inl rfl | exact Or.inr rfl))) (pss_one (pd_fo (ps_for (passes_of rfl) rfl (pd_iof (pi_anyK (K := K) rfl (pd_var (pv 2)))) (pd_gname (pg_name (i := 3) sc_reduce_all.nd rfl (by first | exact Or.inl rfl | exact Or.inr rfl))) (pss_one (pd_ifs (ps_if (PW.pt (pd_tand (pw_and (pd_tcmp d_ne (pt_cmpR (op_neW (K := K) rfl hr.units) (pd_var (pv 1)) (pd_lst (pe_lst (pd_anil pa_nil))) rfl)) (pw_and1 (pd_tcmp d_eq (pt_cmpR (op_eqW (K := K) rfl hr.units) (pd_op2 d_ix (pe_ix (ix_seqK (K := K) rfl) (pd_var (pv 1)) (pd_op1 d_neg (pe_un un_neg (pd_cI pe_int))) (fun _ _ => rfl))) (pd_m0 d_swapcase (pe_m0 PySem.F.slot_str_swapcase PySem.F.type_str_swapcase mt_swapcase (pd_var (pv 3)))) rfl)))))) (pss_one (pd_drop (ps_expr (pd_lm0 lm_pop (pe_bm0K (K := K) rfl (pe_bm0 PySem.F.plainAttrs_list PySem.F.slot_list_pop PySem.F.type_list_pop mt_pop (pv 1))))))) (pss_one (pd_drop (ps_expr (pd_lm lm_append (pe_bmK (K := K) rfl (pe_bm PySem.F.plainAttrs_list PySem.F.slot_list_append PySem.F.type_list_append mt_append (pv 1) (pd_acons (pa_cons (pd_var (pv 3)) (pd_anil pa_nil)))))))))))))))))
      (pss_one (pd_ret (ps_ret (pd_m1 d_join (pe_m1 PySem.F.slot_str_join PySem.F.type_str_join (mt_joinK (K := K) rfl) (pd_cS pe_str) (pd_var (pv 1)))))))))))

theorem sc_reduced_generator : FnScope ["path", "result"] ["path"] (defScope s_reduced_generator) := ⟨rfl, rfl, rfl, by decide +kernel, rfl, by decide +kernel, by decide +kernel⟩
def nm_reduced_generator : List Str := ["path", "result"]
theorem ok_reduced_generator (T : Txt K mg A) : FnG P w K mg base (L2.CX P w) 3 A.a_reduced_generator A.d_reduced_generator ["path"] (spP K mg 1 m_reduced_generator) := by
  refine fnX T.f_reduced_generator sc_reduced_generator (fun vs H Q E h => h.1) (fun cdv A_ outer s H vs Q E hr h => ?_)
  refine ⟨_, pssA (wx := fun cls d _ H => E cls d H) (b := b_reduced_generator) (fun c => ?_), runP_go (k := 1) rfl h⟩
  exact (pd_seq (pss_cons (pd_set (ps_set (i := 1) sc_reduced_generator.nd rfl (by first | exact Or.inl rfl | exact Or.inr rfl) (pd_call (pc_try (W := _) (ok_reduce_all T) (hr.mono (by decide)) (by rfl) T.g_reduce_all T.f_reduce_all.kp T.b_reduce_all (takes_of rfl rfl rfl rfl) (pd_acons (pa_cons (pd_lst (pe_lst (pd_acons (pa_cons (pd_var (pv 0)) (pd_anil pa_nil))))) (pd_anil pa_nil)))))))
      (pd_seq (pss_cons (pd_ifs (ps_if (pd_tcmp d_gt (pt_cmpR op_gt (pd_cb d_len (pe_callB (call_lenUK (K := K) rfl) (by rfl) T.z_len PySem.boot_len (pd_acons (pa_cons (pd_var (pv 1)) (pd_anil pa_nil))))) (pd_cI (pe_gI T.c_MAX_GENERATOR_STEPS)) rfl)) (pss_one (pd_raise1 T.g_LimitExceeded (ps_raise rfl (takes_of rfl rfl rfl rfl) (pmk_x ebO_ok T.x_LimitExceeded T.i_LimitExceeded T.t_LimitExceeded (ok_LimitExceeded___init__ T) (hr.mono (by decide)) T.b_LimitExceeded___init__ pass0 (by rfl) T.g_LimitExceeded (pd_acons (pa_cons (pd_cI (pe_gI T.c_MAX_GENERATOR_STEPS)) (pd_anil pa_nil))))))) (pd_nil pss_nil)))
      (pss_one (pd_ret (ps_ret (pd_var (pv 1)))))))))

theorem sc_reduced_generators : FnScope ["generators", "path"] ["generators"] (defScope s_reduced_generators) := ⟨rfl, rfl, rfl, by decide +kernel, rfl, by decide +kernel, by decide +kernel⟩
def nm_reduced_generators : List Str := ["generators", "path"]
theorem ok_reduced_generators (T : Txt K mg A) : FnG P w K mg base (L2.CX P w) 4 A.a_reduced_generators A.d_reduced_generators ["generators"] (spP K mg 1 m_reduced_generators) := by
  refine fnX T.f_reduced_generators sc_reduced_generators (fun vs H Q E h => h.1) (fun cdv A_ outer s H vs Q E hr h => ?_)
  refine ⟨_, pssA (wx := fun cls d _ H => E cls d H) (b := b_reduced_generators) (fun c => ?_), runP_go (k := 1) rfl h⟩
  exact (pd_seq (pss_cons (pd_ifs (ps_if (pd_tnot (pt_not (pd_tval (pt_val (pd_cb d_isa (pe_callB (call_isiUK (K := K) rfl) (by rfl) T.z_isinstance PyProof.Rows.boot_isinstance (pd_acons (pa_cons (pd_var (pv 0)) (pd_acons (pa_cons (pd_tup (pe_tup (pd_acons (pa_cons (pd_c (pe_bltn (v := .ty "list") (by rfl) T.z_list (by decide +kernel) rfl) (fun _ => .ty _)) (pd_acons (pa_cons (pd_c (pe_bltn (v := .ty "tuple") (by rfl) T.z_tuple (by decide +kernel) rfl) (fun _ => .ty _)) (pd_anil pa_nil))))))) (pd_anil pa_nil))))))))))) (pss_one (pd_raise1 T.g_InvalidPaths (ps_raise rfl (takes_of rfl rfl rfl rfl) (pmk_x ebV_ok T.x_InvalidPaths T.i_InvalidPaths T.t_InvalidPaths (ok_InvalidPaths___init__ T) (hr.mono (by decide)) T.b_InvalidPaths___init__ pass0 (by rfl) T.g_InvalidPaths (pd_acons (pa_cons (pd_cN pe_non) (pd_anil pa_nil))))))) (pd_nil pss_nil)))
      (pd_seq (pss_cons (pd_drop (ps_expr (pd_call (pc_try (W := _) (ok_require_paths T) (hr.mono (by decide)) (by rfl) T.g_require_paths T.f_require_paths.kp T.b_require_paths (takes_of rfl rfl rfl rfl) (pd_acons (pa_cons (pd_var (pv 0)) (pd_acons (pa_cons (pd_cb d_len (pe_callB (call_lenUK (K := K) rfl) (by rfl) T.z_len PySem.boot_len (pd_acons (pa_cons (pd_var (pv 0)) (pd_anil pa_nil))))) (pd_anil pa_nil)))))))))
      (pd_seq (pss_cons (pd_ifs (ps_if (pd_tcmp d_gt (pt_cmpR op_gt (pd_cb d_len (pe_callB (call_lenUK (K := K) rfl) (by rfl) T.z_len PySem.boot_len (pd_acons (pa_cons (pd_var (pv 0)) (pd_anil pa_nil))))) (pd_cI (pe_gI T.c_MAX_GENERATORS)) rfl)) (pss_one (pd_raise1 T.g_LimitExceeded (ps_raise rfl (takes_of rfl rfl rfl rfl) (pmk_x ebO_ok T.x_LimitExceeded T.i_LimitExceeded T.t_LimitExceeded (ok_LimitExceeded___init__ T) (hr.mono (by decide)) T.b_LimitExceeded___init__ pass0 (by rfl) T.g_LimitExceeded (pd_acons (pa_cons (pd_cI (pe_gI T.c_MAX_GENERATORS)) (pd_anil pa_nil))))))) (pd_nil pss_nil)))
      (pss_one (pd_ret (ps_ret (pd_lc (pe_lc (own := [("path", 1)]) rfl sc_reduced_generators.nd (pd_iof (pi_anyK (K := K) rfl (pd_var (pv 0)))) (blkOk_by (N := nm_reduced_generators) (sc := defScope s_reduced_generators) (by decide +kernel)) (fun _ _ _ _ _ => (pgA fun c => (pd_gname (pg_name (i := 1) sc_reduced_generators.nd rfl (by first | exact Or.inl rfl | exact Or.inr rfl))))) (fun _ _ _ _ _ => ptsN) (fun _ _ _ _ _ => (peA fun c => (pd_call (pc_try (W := _) (ok_reduced_generator T) (hr.mono (by decide)) (by rfl) T.g_reduced_generator T.f_reduced_generator.kp T.b_reduced_generator takesF (pd_acons (pa_cons (pd_var (pv 1)) (pd_anil pa_nil))))))))))))))))))

theorem sc_is_integer : FnScope ["value"] ["value"] (defScope s_is_integer) := ⟨rfl, rfl, rfl, by decide +kernel, rfl, by decide +kernel, by decide +kernel⟩
def nm_is_integer : List Str := ["value"]
theorem ok_is_integer (T : Txt K mg A) : FnG P w K mg base (L2.CX P w) 1 A.a_is_integer A.d_is_integer ["value"] (spP K mg 1 m_is_integer) := by
  refine fnX T.f_is_integer sc_is_integer (fun vs H Q E h => h.1) (fun cdv A_ outer s H vs Q E hr h => ?_)
  refine ⟨_, pssA (wx := fun cls d _ H => E cls d H) (b := b_is_integer) (fun c => ?_), runP_go (k := 0) rfl h⟩
  exact (pss_one (pd_ret (ps_ret (pd_and (pe_andTK (K := K) rfl (pd_cb d_isa (pe_callB (call_isiUK (K := K) rfl) (by rfl) T.z_isinstance PyProof.Rows.boot_isinstance (pd_acons (pa_cons (pd_var (pv 0)) (pd_acons (pa_cons (pd_c (pe_bltn (v := .ty "int") (by rfl) T.z_int (by decide +kernel) rfl) (fun _ => .ty _)) (pd_anil pa_nil))))))) (pe_one (pd_not (pe_not (pd_cb d_isa (pe_callB (call_isiUK (K := K) rfl) (by rfl) T.z_isinstance PyProof.Rows.boot_isinstance (pd_acons (pa_cons (pd_var (pv 0)) (pd_acons (pa_cons (pd_c (pe_bltn (v := .ty "bool") (by rfl) T.z_bool (by decide +kernel) rfl) (fun _ => .ty _)) (pd_anil pa_nil)))))))))))))))

theorem sc_is_line : FnScope ["value", "number", "generator_count", "word", "indexes", "index"] ["value", "number", "generator_count"] (defScope s_is_line) := ⟨rfl, rfl, rfl, by decide +kernel, rfl, by decide +kernel, by decide +kernel⟩
def nm_is_line : List Str := ["value", "number", "generator_count", "word", "indexes", "index"]
theorem ok_is_line (T : Txt K mg A) : FnG P w K mg base (L2.CX P w) 2 A.a_is_line A.d_is_line ["value", "number", "generator_count"] (spP K mg 3 m_is_line) := by
  refine fnX T.f_is_line sc_is_line (fun vs H Q E h => h.1) (fun cdv A_ outer s H vs Q E hr h => ?_)
  refine ⟨_, pssA (wx := fun cls d _ H => E cls d H) (b := b_is_line) (fun c => ?_), runP_go (k := 3) rfl h⟩
  exact (pd_seq (pss_cons (pd_ifs (ps_if (PW.pt (pd_tor (pw_or (pd_tnot (pt_not (pd_tval (pt_val (pd_cb d_isa (pe_callB (call_isiUK (K := K) rfl) (by rfl) T.z_isinstance PyProof.Rows.boot_isinstance (pd_acons (pa_cons (pd_var (pv 0)) (pd_acons (pa_cons (pd_c (pe_bltn (v := .ty "tuple") (by rfl) T.z_tuple (by decide +kernel) rfl) (fun _ => .ty _)) (pd_anil pa_nil))))))))))) (pd_tor (pw_or (pd_tcmp d_nin (pt_cmpR (op_ninU (K := K) rfl) (pd_cb d_len (pe_callB (call_lenUK (K := K) rfl) (by rfl) T.z_len PySem.boot_len (pd_acons (pa_cons (pd_var (pv 0)) (pd_anil pa_nil))))) (pd_tup (pe_tup (pd_acons (pa_cons (pd_cI pe_int) (pd_acons (pa_cons (pd_cI pe_int) (pd_anil pa_nil))))))) rfl)) (pw_or1 (pd_tnot (pt_not (pd_tval (pt_val (pd_cb d_isa (pe_callB (call_isiUK (K := K) rfl) (by rfl) T.z_isinstance PyProof.Rows.boot_isinstance (pd_acons (pa_cons (pd_op2 d_ix (pe_ix (ix_seqK (K := K) rfl) (pd_var (pv 0)) (pd_cI pe_int) (fun _ _ => rfl))) (pd_acons (pa_cons (pd_c (pe_bltn (v := .ty "str") (by rfl) T.z_str (by decide +kernel) rfl) (fun _ => .ty _)) (pd_anil pa_nil))))))))))))))))) (pss_one (pd_ret (ps_ret (pd_cB pe_bl)))) (pd_nil pss_nil)))
      (pd_seq (pss_cons (pd_asg (ps_asg (pd_var (pv 0)) (pd_gstar (pg_starK (K := K) (n := 2) (i := 1) rfl rfl (pd_gcons (pgs_cons (pd_gname (pg_name (i := 3) sc_is_line.nd rfl (by first | exact Or.inl rfl | exact Or.inr rfl))) (pd_gcons (pgs_star (pd_gname (pg_name (i := 4) sc_is_line.nd rfl (by first | exact Or.inl rfl | exact Or.inr rfl))) (pd_gnil pgs_nil)))))))))
      (pd_seq (pss_cons (pd_ifs (ps_if (pd_tnot (pt_not (pd_tval (pt_val (pd_cb d_all (pe_callB (call_allK (K := K) rfl rfl) (by rfl) T.z_all PyProof.Rows.boot_all (pd_acons (pa_cons (pd_lc (pe_lc (own := [("index", 5)]) rfl sc_is_line.nd (pd_iof (pi_anyK (K := K) rfl (pd_var (pv 4)))) (blkOk_by (N := nm_is_line) (sc := defScope s_is_line) (by decide +kernel)) (fun _ _ _ _ _ => (pgA fun c => (pd_gname (pg_name (i := 5) sc_is_line.nd rfl (by first | exact Or.inl rfl | exact Or.inr rfl))))) (fun _ _ _ _ _ => ptsN) (fun _ _ _ _ _ => (peA fun c => (pd_and (pe_andTK (K := K) rfl (pd_call (pc_try (W := _) (ok_is_integer T) (hr.mono (by decide)) (by rfl) T.g_is_integer T.f_is_integer.kp T.b_is_integer takesF (pd_acons (pa_cons (pd_var (pv 5)) (pd_anil pa_nil))))) (pe_one (pd_op2 d_ge (pe_cmpR op_ge (pd_var (pv 5)) (pd_cI pe_int) rfl))))))))) (pd_anil pa_nil))))))))) (pss_one (pd_ret (ps_ret (pd_cB pe_bl)))) (pd_nil pss_nil)))
      (pd_seq (pss_cons (pd_ifs (ps_if (pd_tcmp d_eq (pt_cmpR (op_eqW (K := K) rfl hr.units) (pd_var (pv 3)) (pd_cS pe_str) rfl)) (pss_one (pd_ret (ps_ret (pd_and (pe_andTK (K := K) rfl (pd_op2 d_eq (pe_cmpR (op_eqW (K := K) rfl hr.units) (pd_cb d_len (pe_callB (call_lenUK (K := K) rfl) (by rfl) T.z_len PySem.boot_len (pd_acons (pa_cons (pd_var (pv 4)) (pd_anil pa_nil))))) (pd_cI pe_int) rfl)) (pe_one (pd_op2 d_lt (pe_cmpR (op_ltUK (K := K) rfl hr.units) (pd_op2 d_ix (pe_ix (ix_seqK (K := K) rfl) (pd_var (pv 4)) (pd_cI pe_int) (fun _ _ => rfl))) (pd_var (pv 2)) rfl)))))))) (pd_nil pss_nil)))
      (pd_seq (pss_cons (pd_ifs (ps_if (pd_tcmp d_eq (pt_cmpR (op_eqW (K := K) rfl hr.units) (pd_var (pv 3)) (pd_cS pe_str) rfl)) (pss_one (pd_ret (ps_ret (pd_and (pe_andTK (K := K) rfl (pd_op2 d_eq (pe_cmpR (op_eqW (K := K) rfl hr.units) (pd_cb d_len (pe_callB (call_lenUK (K := K) rfl) (by rfl) T.z_len PySem.boot_len (pd_acons (pa_cons (pd_var (pv 4)) (pd_anil pa_nil))))) (pd_cI pe_int) rfl)) (pe_one (pd_op2 d_lt (pe_cmpR (op_ltUK (K := K) rfl hr.units) (pd_op2 d_ix (pe_ix (ix_seqK (K := K) rfl) (pd_var (pv 4)) (pd_cI pe_int) (fun _ _ => rfl))) (pd_var (pv 1)) rfl)))))))) (pd_nil pss_nil)))
      (pss_one (pd_ret (ps_ret (pd_and (pe_andTK (K := K) rfl (pd_op2 d_eq (pe_cmpR (op_eqW (K := K) rfl hr.units) (pd_var (pv 3)) (pd_cS pe_str) rfl)) (pd_and (pe_andTK (K := K) rfl (pd_op2 d_eq (pe_cmpR (op_eqW (K := K) rfl hr.units) (pd_cb d_len (pe_callB (call_lenUK (K := K) rfl) (by rfl) T.z_len PySem.boot_len (pd_acons (pa_cons (pd_var (pv 4)) (pd_anil pa_nil))))) (pd_cI pe_int) rfl)) (pe_one (pd_op2 d_lt (pe_cmpR (op_ltUK (K := K) rfl hr.units) (pd_cb d_max (pe_callB (call_maxUK (K := K) rfl rfl) (by rfl) T.z_max PyProof.Rows.boot_max (pd_acons (pa_cons (pd_var (pv 4)) (pd_anil pa_nil))))) (pd_var (pv 1)) rfl))))))))))))))))))))

theorem sc_inverted : FnScope ["steps"] ["steps"] (defScope s_inverted) := ⟨rfl, rfl, rfl, by decide +kernel, rfl, by decide +kernel, by decide +kernel⟩
def nm_inverted : List Str := ["steps"]
theorem ok_inverted (T : Txt K mg A) : FnG P w K mg base (L2.CX P w) 1 A.a_inverted A.d_inverted ["steps"] (spP K mg 1 m_inverted) := by
  refine fnX T.f_inverted sc_inverted (fun vs H Q E h => h.1) (fun cdv A_ outer s H vs Q E hr h => ?_)
  refine ⟨_, pssA (wx := fun cls d _ H => E cls d H) (b := b_inverted) (fun c => ?_), runP_go (k := 0) rfl h⟩
  exact (pss_one (pd_ret (ps_ret (pd_m0 d_swapcase (pe_m0 PySem.F.slot_str_swapcase PySem.F.type_str_swapcase mt_swapcase (pd_rev (peOr (pe_revS (pd_var (pv 0))) (pe_revLK (K := K) rfl (pd_var (pv 0))))))))))

theorem sc_line_values : FnScope ["paths", "derivation", "values", "number", "line", "word", "index", "others"] ["paths", "derivation"] (defScope s_line_values) := ⟨rfl, rfl, rfl, by decide +kernel, rfl, by decide +kernel, by decide +kernel⟩
def nm_line_values : List Str := ["paths", "derivation", "values", "number", "line", "word", "index", "others"]
theorem ok_line_values (T : Txt K mg A) : FnG P w K mg base (L2.CX P w) 3 A.a_line_values A.d_line_values ["paths", "derivation"] (spP K mg 2 m_line_values) := by
  refine fnX T.f_line_values sc_line_values (fun vs H Q E h => h.1) (fun cdv A_ outer s H vs Q E hr h => ?_)
  refine ⟨_, pssA (wx := fun cls d _ H => E cls d H) (b := b_line_values) (fun c => ?_), runP_go (k := 6) rfl h⟩
  exact (pd_seq (pss_cons (pd_ifs (ps_if (PW.pt (pd_tor (pw_or (pd_tnot (pt_not (pd_tval (pt_val (pd_cb d_isa (pe_callB (call_isiUK (K := K) rfl) (by rfl) T.z_isinstance PyProof.Rows.boot_isinstance (pd_acons (pa_cons (pd_var (pv 1)) (pd_acons (pa_cons (pd_c (pe_bltn (v := .ty "list") (by rfl) T.z_list (by decide +kernel) rfl) (fun _ => .ty _)) (pd_anil pa_nil))))))))))) (pw_or1 (pd_tcmp d_gt (pt_cmpR op_gt (pd_cb d_len (pe_callB (call_lenUK (K := K) rfl) (by rfl) T.z_len PySem.boot_len (pd_acons (pa_cons (pd_var (pv 1)) (pd_anil pa_nil))))) (pd_cI (pe_gI T.c_MAX_LINES)) rfl)))))) (pss_one (pd_ret (ps_ret (pd_cN pe_non)))) (pd_nil pss_nil)))
      (pd_seq (pss_cons (pd_set (ps_set (i := 2) sc_line_values.nd rfl (by first | exact Or.inl rfl | exact Or.inr rfl) (pd_lst (pe_lst (pd_anil pa_nil)))))
      (pd_seq (pss_cons (pd_fo (ps_for (passes_of rfl) rfl (pd_enum (pi_enA (K := K) rfl (by rfl) T.z_enumerate (pd_acons (pa_cons (pd_var (pv 1)) (pd_anil pa_nil))))) (pd_gtup (pg_tupK (K := K) (n := 2) rfl rfl (pd_gcons (pgs_cons (pd_gname (pg_name (i := 3) sc_line_values.nd rfl (by first | exact Or.inl rfl | exact Or.inr rfl))) (pd_gcons (pgs_cons (pd_gname (pg_name (i := 4) sc_line_values.nd rfl (by first | exact Or.inl rfl | exact Or.inr rfl))) (pd_gnil pgs_nil))))))) (pd_seq (pss_cons (pd_ifs (ps_if (pd_tnot (pt_not (pd_tval (pt_val (pd_call (pc_try (W := _) (ok_is_line T) (hr.mono (by decide)) (by rfl) T.g_is_line T.f_is_line.kp T.b_is_line (takes_of rfl rfl rfl rfl) (pd_acons (pa_cons (pd_var (pv 4)) (pd_acons (pa_cons (pd_var (pv 3)) (pd_acons (pa_cons (pd_cb d_len (pe_callB (call_lenUK (K := K) rfl) (by rfl) T.z_len PySem.boot_len (pd_acons (pa_cons (pd_var (pv 0)) (pd_anil pa_nil))))) (pd_anil pa_nil))))))))))))) (pss_one (pd_ret (ps_ret (pd_cN pe_non)))) (pd_nil pss_nil)))
      (pd_seq (pss_cons (pd_asg (ps_asg (pd_var (pv 4)) (pd_gstar (pg_starK (K := K) (n := 3) (i := 2) rfl rfl (pd_gcons (pgs_cons (pd_gname (pg_name (i := 5) sc_line_values.nd rfl (by first | exact Or.inl rfl | exact Or.inr rfl))) (pd_gcons (pgs_cons (pd_gname (pg_name (i := 6) sc_line_values.nd rfl (by first | exact Or.inl rfl | exact Or.inr rfl))) (pd_gcons (pgs_star (pd_gname (pg_name (i := 7) sc_line_values.nd rfl (by first | exact Or.inl rfl | exact Or.inr rfl))) (pd_gnil pgs_nil)))))))))))
      (pd_seq (pss_cons (pd_ifs (ps_if (pd_tcmp d_eq (pt_cmpR (op_eqW (K := K) rfl hr.units) (pd_var (pv 5)) (pd_cS pe_str) rfl)) (pss_one (pd_drop (ps_expr (pd_lm lm_append (pe_bmK (K := K) rfl (pe_bm PySem.F.plainAttrs_list PySem.F.slot_list_append PySem.F.type_list_append mt_append (pv 2) (pd_acons (pa_cons (pd_op2 d_ix (pe_ix (ix_seqK (K := K) rfl) (pd_var (pv 0)) (pd_var (pv 6)) (fun _ _ => rfl))) (pd_anil pa_nil))))))))) (pss_one (pd_ifs (ps_if (pd_tcmp d_eq (pt_cmpR (op_eqW (K := K) rfl hr.units) (pd_var (pv 5)) (pd_cS pe_str) rfl)) (pss_one (pd_drop (ps_expr (pd_lm lm_append (pe_bmK (K := K) rfl (pe_bm PySem.F.plainAttrs_list PySem.F.slot_list_append PySem.F.type_list_append mt_append (pv 2) (pd_acons (pa_cons (pd_call (pc_try (W := _) (ok_inverted T) (hr.mono (by decide)) (by rfl) T.g_inverted T.f_inverted.kp T.b_inverted (takes_of rfl rfl rfl rfl) (pd_acons (pa_cons (pd_op2 d_ix (pe_ix (ix_seqK (K := K) rfl) (pd_var (pv 2)) (pd_var (pv 6)) (fun _ _ => rfl))) (pd_anil pa_nil))))) (pd_anil pa_nil))))))))) (pss_one (pd_drop (ps_expr (pd_lm lm_append (pe_bmK (K := K) rfl (pe_bm PySem.F.plainAttrs_list PySem.F.slot_list_append PySem.F.type_list_append mt_append (pv 2) (pd_acons (pa_cons (pd_call (pc_try (W := _) (ok_reduce_all T) (hr.mono (by decide)) (by rfl) T.g_reduce_all T.f_reduce_all.kp T.b_reduce_all (takes_of rfl rfl rfl rfl) (pd_acons (pa_cons (pd_lst (pe_lst (pd_acons (pa_cons (pd_op2 d_ix (pe_ix (ix_seqK (K := K) rfl) (pd_var (pv 2)) (pd_var (pv 6)) (fun _ _ => rfl))) (pd_acons (pa_cons (pd_op2 d_ix (pe_ix (ix_seqK (K := K) rfl) (pd_var (pv 2)) (pd_op2 d_ix (pe_ix (ix_seqK (K := K) rfl) (pd_var (pv 7)) (pd_cI pe_int) (fun _ _ => rfl))) (fun _ _ => rfl))) (pd_anil pa_nil))))))) (pd_anil pa_nil))))) (pd_anil pa_nil))))))))))))))
      (pss_one (pd_ifs (ps_if (pd_tcmp d_gt (pt_cmpR op_gt (pd_cb d_len (pe_callB (call_lenUK (K := K) rfl) (by rfl) T.z_len PySem.boot_len (pd_acons (pa_cons (pd_op2 d_ix (pe_ix (ix_seqK (K := K) rfl) (pd_var (pv 2)) (pd_op1 d_neg (pe_un un_neg (pd_cI pe_int))) (fun _ _ => rfl))) (pd_anil pa_nil))))) (pd_cI (pe_gI T.c_MAX_VALUE_STEPS)) rfl)) (pss_one (pd_ret (ps_ret (pd_cN pe_non)))) (pd_nil pss_nil))))))))))))
      (pss_one (pd_ret (ps_ret (pd_var (pv 2)))))))))))

theorem sc_derives : FnScope ["paths", "path", "derivation", "values"] ["paths", "path", "derivation"] (defScope s_derives) := ⟨rfl, rfl, rfl, by decide +kernel, rfl, by decide +kernel, by decide +kernel⟩
def nm_derives : List Str := ["paths", "path", "derivation", "values"]
theorem ok_derives (T : Txt K mg A) : FnG P w K mg base (L2.CX P w) 4 A.a_derives A.d_derives ["paths", "path", "derivation"] (spP K mg 3 m_derives) := by
  refine fnX T.f_derives sc_derives (fun vs H Q E h => h.1) (fun cdv A_ outer s H vs Q E hr h => ?_)
  refine ⟨_, pssA (wx := fun cls d _ H => E cls d H) (b := b_derives) (fun c => ?_), runP_go (k := 1) rfl h⟩
  exact (pd_seq (pss_cons (pd_set (ps_set (i := 3) sc_derives.nd rfl (by first | exact Or.inl rfl | exact Or.inr rfl) (pd_call (pc_try (W := _) (ok_line_values T) (hr.mono (by decide)) (by rfl) T.g_line_values T.f_line_values.kp T.b_line_values (takes_of rfl rfl rfl rfl) (pd_acons (pa_cons (pd_var (pv 0)) (pd_acons (pa_cons (pd_var (pv 2)) (pd_anil pa_nil)))))))))
      (pss_one (pd_ret (ps_ret (pd_and (pe_andTK (K := K) rfl (pd_op2 d_notN (pe_cmpR op_notN (pd_var (pv 3)) (pd_cN pe_non) rfl)) (pe_one (pd_op2 d_eq (pe_cmpR (op_eqW (K := K) rfl hr.units) (pd_op2 d_ix (pe_ix (ix_seqK (K := K) rfl) (pd_op2 d_add (pe_op (op_addUT (K := K) rfl) (pd_lst (pe_lst (pd_acons (pa_cons (pd_cS pe_str) (pd_anil pa_nil))))) (pd_var (pv 3)))) (pd_op1 d_neg (pe_un un_neg (pd_cI pe_int))) (fun _ _ => rfl))) (pd_var (pv 1)) rfl))))))))))

theorem sc_InvalidPath___init__ : FnScope ["self", "value"] ["self", "value"] (defScope s_InvalidPath___init__) := ⟨rfl, rfl, rfl, by decide +kernel, rfl, by decide +kernel, by decide +kernel⟩
def nm_InvalidPath___init__ : List Str := ["self", "value"]
def sp_InvalidPath___init__ (_ : PySem.W.Frag) (A : Ad) : Sp := sp_in1 A.k_InvalidPath "value"
theorem ok_InvalidPath___init__ (T : Txt K mg A) : FnG P w K mg base CX0 1 A.a_InvalidPath___init__ A.d_InvalidPath___init__ ["self", "value"] (sp_InvalidPath___init__ K A) := by
  refine fn0 T.f_InvalidPath___init__ sc_InvalidPath___init__ (fun vs H Q E h => ?_) (fun cdv A_ outer s H vs Q E hr h => ?_)
  · first | (obtain ⟨_, rfl, _⟩ := h; rfl) | (obtain ⟨_, _, rfl, _⟩ := h; rfl) | (obtain ⟨_, _, _, rfl, _⟩ := h; rfl) | (obtain ⟨_, _, _, _, rfl, _⟩ := h; rfl) | (obtain ⟨_, _, _, _, _, rfl, _⟩ := h; rfl) | (obtain ⟨_, _, _, _, _, _, rfl, _⟩ := h; rfl) | (obtain ⟨rfl, _⟩ := h; rfl)
  · obtain ⟨a, v, rfl, ha, q⟩ := h
    refine ⟨_, (pss_cons (ps_expr (pe_iniC ebV_ok (by decide +kernel) (by rfl) T.g_PathError T.s_PathError T.r_PathError T.v_PathError (pa_cons (pv 0) (pa_cons pe_str pa_nil)))) (pss_one (ps_fld ebV_ok (pv 0) (pv 1)))), ?_⟩
    dsimp only [L2.cxOf, L2.Cx.nox, L2.Cx.wish, L2.start, List.map, List.length_cons, List.length_nil, Nat.reduceAdd, Nat.reduceSub, List.replicate, List.cons_append, List.nil_append, nm_InvalidPath___init__]
    walk_at "hx go"
    refine ⟨a, A.k_InvalidPath, [_], rfl, by decide, T.x_InvalidPath, ha, ?_⟩
    walk_at "hx go"
    exact ⟨a, A.k_InvalidPath, rfl, T.x_InvalidPath, taker_of T.n_InvalidPath_value, Or.inl ⟨ha, fun dx nd ne => q dx nd ne⟩⟩

theorem sc_require_path : FnScope ["value"] ["value"] (defScope s_require_path) := ⟨rfl, rfl, rfl, by decide +kernel, rfl, by decide +kernel, by decide +kernel⟩
def nm_require_path : List Str := ["value"]
theorem ok_require_path (T : Txt K mg A) : FnG P w K mg base (L2.CX P w) 3 A.a_require_path A.d_require_path ["value"] (spP K mg 1 m_require_path) := by
  refine fnX T.f_require_path sc_require_path (fun vs H Q E h => h.1) (fun cdv A_ outer s H vs Q E hr h => ?_)
  refine ⟨_, pssA (wx := fun cls d _ H => E cls d H) (b := b_require_path) (fun c => ?_), runP_go (k := 0) rfl h⟩
  exact (pss_one (pd_ifs (ps_if (pd_tnot (pt_not (pd_tval (pt_val (pd_call (pc_try (W := _) (ok_is_path T) (hr.mono (by decide)) (by rfl) T.g_is_path T.f_is_path.kp T.b_is_path (takes_of rfl rfl rfl rfl) (pd_acons (pa_cons (pd_var (pv 0)) (pd_anil pa_nil))))))))) (pss_one (pd_raise1 T.g_InvalidPath (ps_raise rfl (takes_of rfl rfl rfl rfl) (pmk_x ebV_ok T.x_InvalidPath T.i_InvalidPath T.t_InvalidPath (ok_InvalidPath___init__ T) (hr.mono (by decide)) T.b_InvalidPath___init__ pass0 (by rfl) T.g_InvalidPath (pd_acons (pa_cons (pd_var (pv 0)) (pd_anil pa_nil))))))) (pd_nil pss_nil))))

theorem sc_reduced : FnScope ["path"] ["path"] (defScope s_reduced) := ⟨rfl, rfl, rfl, by decide +kernel, rfl, by decide +kernel, by decide +kernel⟩
def nm_reduced : List Str := ["path"]
theorem ok_reduced (T : Txt K mg A) : FnG P w K mg base (L2.CX P w) 4 A.a_reduced A.d_reduced ["path"] (spP K mg 1 m_reduced) := by
  refine fnX T.f_reduced sc_reduced (fun vs H Q E h => h.1) (fun cdv A_ outer s H vs Q E hr h => ?_)
  refine ⟨_, pssA (wx := fun cls d _ H => E cls d H) (b := b_reduced) (fun c => ?_), runP_go (k := 0) rfl h⟩
  exact (pd_seq (pss_cons (pd_drop (ps_expr (pd_call (pc_try (W := _) (ok_require_path T) (hr.mono (by decide)) (by rfl) T.g_require_path T.f_require_path.kp T.b_require_path (takes_of rfl rfl rfl rfl) (pd_acons (pa_cons (pd_var (pv 0)) (pd_anil pa_nil)))))))
      (pss_one (pd_ret (ps_ret (pd_call (pc_try (W := _) (ok_reduce_all T) (hr.mono (by decide)) (by rfl) T.g_reduce_all T.f_reduce_all.kp T.b_reduce_all (takes_of rfl rfl rfl rfl) (pd_acons (pa_cons (pd_lst (pe_lst (pd_acons (pa_cons (pd_var (pv 0)) (pd_anil pa_nil))))) (pd_anil pa_nil))))))))))

theorem sc_check_derivation : FnScope ["generators", "path", "derivation", "paths"] ["generators", "path", "derivation"] (defScope s_check_derivation) := ⟨rfl, rfl, rfl, by decide +kernel, rfl, by decide +kernel, by decide +kernel⟩
def nm_check_derivation : List Str := ["generators", "path", "derivation", "paths"]
theorem ok_check_derivation (T : Txt K mg A) : FnG P w K mg base (L2.CX P w) 5 A.a_check_derivation A.d_check_derivation ["generators", "path", "derivation"] (spP K mg 3 m_check_derivation) := by
  refine fnX T.f_check_derivation sc_check_derivation (fun vs H Q E h => h.1) (fun cdv A_ outer s H vs Q E hr h => ?_)
  refine ⟨_, pssA (wx := fun cls d _ H => E cls d H) (b := b_check_derivation) (fun c => ?_), runP_go (k := 1) rfl h⟩
  exact (pd_seq (pss_cons (pd_set (ps_set (i := 3) sc_check_derivation.nd rfl (by first | exact Or.inl rfl | exact Or.inr rfl) (pd_call (pc_try (W := _) (ok_reduced_generators T) (hr.mono (by decide)) (by rfl) T.g_reduced_generators T.f_reduced_generators.kp T.b_reduced_generators (takes_of rfl rfl rfl rfl) (pd_acons (pa_cons (pd_var (pv 0)) (pd_anil pa_nil)))))))
      (pss_one (pd_ret (ps_ret (pd_call (pc_try (W := _) (ok_derives T) (hr.mono (by decide)) (by rfl) T.g_derives T.f_derives.kp T.b_derives (takes_of rfl rfl rfl rfl) (pd_acons (pa_cons (pd_var (pv 3)) (pd_acons (pa_cons (pd_call (pc_try (W := _) (ok_reduced T) (hr.mono (by decide)) (by rfl) T.g_reduced T.f_reduced.kp T.b_reduced (takes_of rfl rfl rfl rfl) (pd_acons (pa_cons (pd_var (pv 1)) (pd_anil pa_nil))))) (pd_acons (pa_cons (pd_var (pv 2)) (pd_anil pa_nil))))))))))))))

theorem sc_law_take : FnScope ["_law_pool_here", "_law_many", "_law_digit"] ["_law_pool_here", "_law_many"] (defScope s_law_take) := ⟨rfl, rfl, rfl, by decide +kernel, rfl, by decide +kernel, by decide +kernel⟩
def nm_law_take : List Str := ["_law_pool_here", "_law_many", "_law_digit"]
theorem ok_law_take (T : Txt K mg A) : FnG P w K mg base (L2.CX P w) 1 A.a_law_take A.d_law_take ["_law_pool_here", "_law_many"] (spI K mg 1 m_law_take) := by
  refine fnX T.f_law_take sc_law_take (fun vs H Q E h => h.1) (fun cdv A_ outer s H vs Q E hr h => ?_)
  refine ⟨_, pssA (wx := fun cls d _ H => E cls d H) (b := b_law_take) (fun c => ?_), runI_go (k := 1) rfl h⟩
  exact (pd_seq (pss_cons (pd_ifs (ps_if (pd_tcmp d_gt (pt_cmpR op_gt (pd_op2 d_ix (pe_ix (ix_seqK (K := K) rfl) (pd_var (pv 0)) (pd_cI pe_int) (fun _ _ => rfl))) (pd_cI pe_int) rfl)) (pd_seq (pss_cons (pd_set (ps_set (i := 2) sc_law_take.nd rfl (by first | exact Or.inl rfl | exact Or.inr rfl) (pd_op2 d_mod (pe_op op_mod (pd_op2 d_ix (pe_ix (ix_seqK (K := K) rfl) (pd_var (pv 0)) (pd_cI pe_int) (fun _ _ => rfl))) (pd_var (pv 1))))))
      (pd_seq (pss_cons (pd_seti (ps_asg (pd_op2 d_fdiv (pe_op op_fdiv (pd_op2 d_ix (pe_ix (ix_seqK (K := K) rfl) (pd_var (pv 0)) (pd_cI pe_int) (fun _ _ => rfl))) (pd_var (pv 1)))) (pg_sub (pv 0) (pd_cI pe_int) set_list)))
      (pss_one (pd_ret (ps_ret (pd_var (pv 2))))))))) (pd_nil pss_nil)))
      (pd_seq (pss_cons (pd_seti (ps_asg (pd_op2 d_mod (pe_op op_mod (pd_op2 d_add (pe_op (op_addUT (K := K) rfl) (pd_op2 d_mul (pe_op op_mulU (pd_op2 d_ix (pe_ix (ix_seqK (K := K) rfl) (pd_var (pv 0)) (pd_cI pe_int) (fun _ _ => rfl))) (pd_cI pe_int))) (pd_cI pe_int))) (pd_cI pe_int))) (pg_sub (pv 0) (pd_cI pe_int) set_list)))
      (pss_one (pd_ret (ps_ret (pd_op2 d_mod (pe_op op_mod (pd_op2 d_fdiv (pe_op op_fdiv (pd_op2 d_mod (pe_op op_mod (pd_op2 d_mul (pe_op op_mulU (pd_op2 d_ix (pe_ix (ix_seqK (K := K) rfl) (pd_var (pv 0)) (pd_cI pe_int) (fun _ _ => rfl))) (pd_op2 d_ix (pe_ix (ix_seqK (K := K) rfl) (pd_var (pv 0)) (pd_cI pe_int) (fun _ _ => rfl))))) (pd_cI pe_int))) (pd_cI pe_int))) (pd_var (pv 1)))))))))))

theorem sc_law_limits_right : FnScope ["_law_pool_here", "_law_lines", "_law_number", "_law_paths", "_law_longer"] ["_law_pool_here"] (defScope s_law_limits_right) := ⟨rfl, rfl, rfl, by decide +kernel, rfl, by decide +kernel, by decide +kernel⟩
def nm_law_limits_right : List Str := ["_law_pool_here", "_law_lines", "_law_number", "_law_paths", "_law_longer"]
theorem ok_law_limits_right (T : Txt K mg A) : FnG P w K mg base (L2.CX P w) 6 A.a_law_limits_right A.d_law_limits_right ["_law_pool_here"] (spI K mg 0 m_law_limits_right) := by
  refine fnX T.f_law_limits_right sc_law_limits_right (fun vs H Q E h => h.1) (fun cdv A_ outer s H vs Q E hr h => ?_)
  refine ⟨_, pssA (wx := fun cls d _ H => E cls d H) (b := b_law_limits_right) (fun c => ?_), runI_go (k := 4) rfl h⟩
  exact (pd_seq (pss_cons (pd_set (ps_set (i := 1) sc_law_limits_right.nd rfl (by first | exact Or.inl rfl | exact Or.inr rfl) (pd_lst (pe_lst (pd_acons (pa_cons (pd_tup (pe_tup (pd_acons (pa_cons (pd_cS pe_str) (pd_acons (pa_cons (pd_cI pe_int) (pd_anil pa_nil))))))) (pd_anil pa_nil)))))))
      (pd_seq (pss_cons (pd_fo (ps_for (passes_of rfl) rfl (pd_rng1 (pi_range1 (by rfl) T.z_range (pd_acons (pa_cons (pd_cI pe_int) (pd_anil pa_nil))))) (pd_gname (pg_name (i := 2) sc_law_limits_right.nd rfl (by first | exact Or.inl rfl | exact Or.inr rfl))) (pss_one (pd_drop (ps_expr (pd_lm lm_append (pe_bmK (K := K) rfl (pe_bm PySem.F.plainAttrs_list PySem.F.slot_list_append PySem.F.type_list_append mt_append (pv 1) (pd_acons (pa_cons (pd_tup (pe_tup (pd_acons (pa_cons (pd_cS pe_str) (pd_acons (pa_cons (pd_var (pv 2)) (pd_acons (pa_cons (pd_var (pv 2)) (pd_anil pa_nil))))))))) (pd_anil pa_nil)))))))))))
      (pd_seq (pss_cons (pd_set (ps_set (i := 1) sc_law_limits_right.nd rfl (by first | exact Or.inl rfl | exact Or.inr rfl) (pd_op2 d_add (pe_op (op_addUT (K := K) rfl) (pd_var (pv 1)) (pd_lst (pe_lst (pd_acons (pa_cons (pd_tup (pe_tup (pd_acons (pa_cons (pd_cS pe_str) (pd_acons (pa_cons (pd_cI pe_int) (pd_acons (pa_cons (pd_cI pe_int) (pd_anil pa_nil))))))))) (pd_acons (pa_cons (pd_tup (pe_tup (pd_acons (pa_cons (pd_cS pe_str) (pd_acons (pa_cons (pd_cI pe_int) (pd_anil pa_nil))))))) (pd_acons (pa_cons (pd_tup (pe_tup (pd_acons (pa_cons (pd_cS pe_str) (pd_acons (pa_cons (pd_cI pe_int) (pd_acons (pa_cons (pd_cI pe_int) (pd_anil pa_nil))))))))) (pd_anil pa_nil)))))))))))))
      (pd_seq (pss_cons (pd_set (ps_set (i := 3) sc_law_limits_right.nd rfl (by first | exact Or.inl rfl | exact Or.inr rfl) (pd_lst (pe_lst (pd_acons (pa_cons (pd_op2 d_mul (pe_op op_mulU (pd_cS pe_str) (pd_cI pe_int))) (pd_acons (pa_cons (pd_cS pe_str) (pd_anil pa_nil)))))))))
      (pd_seq (pss_cons (pd_ifs (ps_if (pd_tcmp d_notBl (pt_cmpR op_notBl (pd_call (pc_try (W := _) (ok_check_derivation T) (hr.mono (by decide)) (by rfl) T.g_check_derivation T.f_check_derivation.kp T.b_check_derivation (takes_of rfl rfl rfl rfl) (pd_acons (pa_cons (pd_var (pv 3)) (pd_acons (pa_cons (pd_op2 d_mul (pe_op op_mulU (pd_cS pe_str) (pd_cI pe_int))) (pd_acons (pa_cons (pd_var (pv 1)) (pd_anil pa_nil))))))))) (pd_cB pe_bl) rfl)) (pss_one (pd_ret (ps_ret (pd_cB pe_bl)))) (pd_nil pss_nil)))
      (pd_seq (pss_cons (pd_set (ps_set (i := 4) sc_law_limits_right.nd rfl (by first | exact Or.inl rfl | exact Or.inr rfl) (pd_lst (pe_lst (pd_acons (pa_cons (pd_tup (pe_tup (pd_acons (pa_cons (pd_cS pe_str) (pd_acons (pa_cons (pd_cI pe_int) (pd_anil pa_nil))))))) (pd_acons (pa_cons (pd_tup (pe_tup (pd_acons (pa_cons (pd_cS pe_str) (pd_acons (pa_cons (pd_cI pe_int) (pd_acons (pa_cons (pd_cI pe_int) (pd_anil pa_nil))))))))) (pd_acons (pa_cons (pd_tup (pe_tup (pd_acons (pa_cons (pd_cS pe_str) (pd_acons (pa_cons (pd_cI pe_int) (pd_anil pa_nil))))))) (pd_acons (pa_cons (pd_tup (pe_tup (pd_acons (pa_cons (pd_cS pe_str) (pd_acons (pa_cons (pd_cI pe_int) (pd_acons (pa_cons (pd_cI pe_int) (pd_anil pa_nil))))))))) (pd_acons (pa_cons (pd_tup (pe_tup (pd_acons (pa_cons (pd_cS pe_str) (pd_acons (pa_cons (pd_cI pe_int) (pd_acons (pa_cons (pd_cI pe_int) (pd_anil pa_nil))))))))) (pd_anil pa_nil)))))))))))))))
      (pd_seq (pss_cons (pd_ifs (ps_if (pd_tcmp d_notBl (pt_cmpR op_notBl (pd_call (pc_try (W := _) (ok_check_derivation T) (hr.mono (by decide)) (by rfl) T.g_check_derivation T.f_check_derivation.kp T.b_check_derivation (takes_of rfl rfl rfl rfl) (pd_acons (pa_cons (pd_var (pv 3)) (pd_acons (pa_cons (pd_op2 d_mul (pe_op op_mulU (pd_cS pe_str) (pd_cI pe_int))) (pd_acons (pa_cons (pd_op2 d_add (pe_op (op_addUT (K := K) rfl) (pd_var (pv 1)) (pd_var (pv 4)))) (pd_anil pa_nil))))))))) (pd_cB pe_bl) rfl)) (pss_one (pd_ret (ps_ret (pd_cB pe_bl)))) (pd_nil pss_nil)))
      (pd_seq (pss_cons (pd_ifs (ps_if (pd_tcmp d_gt (pt_cmpR op_gt (pd_callI (pc_try (W := _) (ok_law_take T) (hr.mono (by decide)) (by rfl) T.g_law_take T.f_law_take.kp T.b_law_take (takes_of rfl rfl rfl rfl) (pa_cons (pv 0) (pd_acons (pa_cons (pd_cI pe_int) (pd_anil pa_nil)))))) (pd_cI pe_int) rfl)) (pss_one (pd_ret (ps_ret (pd_cB pe_bl)))) (pd_nil pss_nil)))
      (pd_seq (pss_cons (pd_set (ps_set (i := 1) sc_law_limits_right.nd rfl (by first | exact Or.inl rfl | exact Or.inr rfl) (pd_op2 d_mul (pe_op op_mulU (pd_lst (pe_lst (pd_acons (pa_cons (pd_tup (pe_tup (pd_acons (pa_cons (pd_cS pe_str) (pd_acons (pa_cons (pd_cI pe_int) (pd_anil pa_nil))))))) (pd_anil pa_nil))))) (pd_cI pe_int)))))
      (pss_one (pd_ret (ps_ret (pd_and (pe_andTK (K := K) rfl (pd_op2 d_isBl (pe_cmpR op_isBl (pd_call (pc_try (W := _) (ok_check_derivation T) (hr.mono (by decide)) (by rfl) T.g_check_derivation T.f_check_derivation.kp T.b_check_derivation (takes_of rfl rfl rfl rfl) (pd_acons (pa_cons (pd_lst (pe_lst (pd_acons (pa_cons (pd_cS pe_str) (pd_anil pa_nil))))) (pd_acons (pa_cons (pd_cS pe_str) (pd_acons (pa_cons (pd_var (pv 1)) (pd_anil pa_nil))))))))) (pd_cB pe_bl) rfl)) (pe_one (pd_op2 d_isBl (pe_cmpR op_isBl (pd_call (pc_try (W := _) (ok_check_derivation T) (hr.mono (by decide)) (by rfl) T.g_check_derivation T.f_check_derivation.kp T.b_check_derivation (takes_of rfl rfl rfl rfl) (pd_acons (pa_cons (pd_lst (pe_lst (pd_acons (pa_cons (pd_cS pe_str) (pd_anil pa_nil))))) (pd_acons (pa_cons (pd_cS pe_str) (pd_acons (pa_cons (pd_op2 d_add (pe_op (op_addUT (K := K) rfl) (pd_var (pv 1)) (pd_sl (pe_slice (sl_UT (K := K) rfl) (pd_var (pv 1)) (pd_noP po_none) (pd_part (po_some (pd_cI pe_int))))))) (pd_anil pa_nil))))))))) (pd_cB pe_bl) rfl))))))))))))))))))))))))))

theorem sc_law_pool : FnScope ["_law_script", "_law_k", "_law_cell", "_law_number", "_law_mixed"] ["_law_script", "_law_k"] (defScope s_law_pool) := ⟨rfl, rfl, rfl, by decide +kernel, rfl, by decide +kernel, by decide +kernel⟩
def nm_law_pool : List Str := ["_law_script", "_law_k", "_law_cell", "_law_number", "_law_mixed"]
theorem ok_law_pool (T : Txt K mg A) : FnG P w K mg base (L2.CX P w) 1 A.a_law_pool A.d_law_pool ["_law_script", "_law_k"] (spP K mg 2 m_law_pool) := by
  refine fnX T.f_law_pool sc_law_pool (fun vs H Q E h => h.1) (fun cdv A_ outer s H vs Q E hr h => ?_)
  refine ⟨_, pssA (wx := fun cls d _ H => E cls d H) (b := b_law_pool) (fun c => ?_), runP_go (k := 3) rfl h⟩
  exact (pd_seq (pss_cons (pd_set (ps_set (i := 2) sc_law_pool.nd rfl (by first | exact Or.inl rfl | exact Or.inr rfl) (pd_op2 d_ix (pe_ix (ix_seqK (K := K) rfl) (pd_op2 d_add (pe_op (op_addUT (K := K) rfl) (pd_sl (pe_slice (sl_UT (K := K) rfl) (pd_var (pv 0)) (pd_part (po_some (pd_var (pv 1)))) (pd_part (po_some (pd_op2 d_add (pe_op (op_addUT (K := K) rfl) (pd_var (pv 1)) (pd_cI pe_int))))))) (pd_lst (pe_lst (pd_acons (pa_cons (pd_cI pe_int) (pd_anil pa_nil))))))) (pd_cI pe_int) (fun _ _ => rfl)))))
      (pd_seq (pss_cons (pd_set (ps_set (i := 3) sc_law_pool.nd rfl (by first | exact Or.inl rfl | exact Or.inr rfl) (pd_cb d_max (pe_callB (call_maxUK (K := K) rfl rfl) (by rfl) T.z_max PyProof.Rows.boot_max (pd_acons (pa_cons (pd_var (pv 2)) (pd_acons (pa_cons (pd_op2 d_sub (pe_op op_sub (pd_op1 d_neg (pe_un un_neg (pd_cI pe_int))) (pd_var (pv 2)))) (pd_anil pa_nil)))))))))
      (pd_seq (pss_cons (pd_set (ps_set (i := 4) sc_law_pool.nd rfl (by first | exact Or.inl rfl | exact Or.inr rfl) (pd_op2 d_mod (pe_op op_mod (pd_op2 d_mul (pe_op op_mulU (pd_op2 d_add (pe_op (op_addUT (K := K) rfl) (pd_op2 d_add (pe_op (op_addUT (K := K) rfl) (pd_op2 d_add (pe_op (op_addUT (K := K) rfl) (pd_op2 d_mod (pe_op op_mod (pd_var (pv 3)) (pd_cI pe_int))) (pd_op2 d_mul (pe_op op_mulU (pd_op2 d_mul (pe_op op_mulU (pd_cI pe_int) (pd_var (pv 1)))) (pd_var (pv 1)))))) (pd_op2 d_mul (pe_op op_mulU (pd_cI pe_int) (pd_var (pv 1)))))) (pd_cI pe_int))) (pd_cI pe_int))) (pd_cI pe_int)))))
      (pss_one (pd_ret (ps_ret (pd_lst (pe_lst (pd_acons (pa_cons (pd_op2 d_mul (pe_op op_mulU (pd_var (pv 3)) (pd_cb d_int (pe_callTy call_intU (by rfl) T.z_int (by decide +kernel) (pd_acons (pa_cons (pd_op2 d_ge (pe_cmpR op_ge (pd_var (pv 3)) (pd_op2 d_pow (pe_op op_pow (pd_cI pe_int) (pd_cI pe_int))) rfl)) (pd_anil pa_nil))))))) (pd_acons (pa_cons (pd_op2 d_mod (pe_op op_mod (pd_op2 d_mul (pe_op op_mulU (pd_var (pv 4)) (pd_var (pv 4)))) (pd_cI pe_int))) (pd_anil pa_nil))))))))))))))))

theorem sc_law_path : FnScope ["_law_pool_here", "_law_most", "_law_letters", "_law_turn"] ["_law_pool_here", "_law_most", "_law_letters"] (defScope s_law_path) := ⟨rfl, rfl, rfl, by decide +kernel, rfl, by decide +kernel, by decide +kernel⟩
def nm_law_path : List Str := ["_law_pool_here", "_law_most", "_law_letters", "_law_turn"]
theorem ok_law_path (T : Txt K mg A) : FnG P w K mg base (L2.CX P w) 2 A.a_law_path A.d_law_path ["_law_pool_here", "_law_most", "_law_letters"] (spI K mg 2 m_law_path) := by
  refine fnX T.f_law_path sc_law_path (fun vs H Q E h => h.1) (fun cdv A_ outer s H vs Q E hr h => ?_)
  refine ⟨_, pssA (wx := fun cls d _ H => E cls d H) (b := b_law_path) (fun c => ?_), runI_go (k := 1) rfl h⟩
  exact (pss_one (pd_ret (ps_ret (pd_m1 d_join (pe_m1 PySem.F.slot_str_join PySem.F.type_str_join (mt_joinK (K := K) rfl) (pd_cS pe_str) (pd_lc (pe_lc (own := [("_law_turn", 3)]) rfl sc_law_path.nd (pd_rng1 (pi_range1 (by rfl) T.z_range (pd_acons (pa_cons (pd_callI (pc_try (W := _) (ok_law_take T) (hr.mono (by decide)) (by rfl) T.g_law_take T.f_law_take.kp T.b_law_take (takes_of rfl rfl rfl rfl) (pa_cons (pv 0) (pd_acons (pa_cons (pd_op2 d_add (pe_op (op_addUT (K := K) rfl) (pd_var (pv 1)) (pd_cI pe_int))) (pd_anil pa_nil)))))) (pd_anil pa_nil))))) (blkOk_by (N := nm_law_path) (sc := defScope s_law_path) (by decide +kernel)) (fun _ _ _ _ _ => (pgA fun c => (pd_gname (pg_name (i := 3) sc_law_path.nd rfl (by first | exact Or.inl rfl | exact Or.inr rfl))))) (fun _ _ _ _ _ => ptsN) (fun _ _ _ _ _ => (peA fun c => (pd_op2 d_ix (pe_ix (ix_seqK (K := K) rfl) (pd_cS pe_str) (pd_callI (pc_try (W := _) (ok_law_take T) (hr.mono (by decide)) (by rfl) T.g_law_take T.f_law_take.kp T.b_law_take takesF (pa_cons (pv 0) (pd_acons (pa_cons (pd_op2 d_mul (pe_op op_mulU (pd_cI pe_int) (pd_var (pv 2)))) (pd_anil pa_nil)))))) (fun _ _ => rfl))))))))))))

theorem sc_law_generators : FnScope ["_law_pool_here", "_law_many", "_law_most", "_law_letters", "_law_turn"] ["_law_pool_here", "_law_many", "_law_most", "_law_letters"] (defScope s_law_generators) := ⟨rfl, rfl, rfl, by decide +kernel, rfl, by decide +kernel, by decide +kernel⟩
def nm_law_generators : List Str := ["_law_pool_here", "_law_many", "_law_most", "_law_letters", "_law_turn"]
theorem ok_law_generators (T : Txt K mg A) : FnG P w K mg base (L2.CX P w) 3 A.a_law_generators A.d_law_generators ["_law_pool_here", "_law_many", "_law_most", "_law_letters"] (spI K mg 3 m_law_generators) := by
  refine fnX T.f_law_generators sc_law_generators (fun vs H Q E h => h.1) (fun cdv A_ outer s H vs Q E hr h => ?_)
  refine ⟨_, pssA (wx := fun cls d _ H => E cls d H) (b := b_law_generators) (fun c => ?_), runI_go (k := 1) rfl h⟩
  exact (pss_one (pd_ret (ps_ret (pd_lc (pe_lc (own := [("_law_turn", 4)]) rfl sc_law_generators.nd (pd_rng1 (pi_range1 (by rfl) T.z_range (pd_acons (pa_cons (pd_callI (pc_try (W := _) (ok_law_take T) (hr.mono (by decide)) (by rfl) T.g_law_take T.f_law_take.kp T.b_law_take (takes_of rfl rfl rfl rfl) (pa_cons (pv 0) (pd_acons (pa_cons (pd_op2 d_add (pe_op (op_addUT (K := K) rfl) (pd_var (pv 1)) (pd_cI pe_int))) (pd_anil pa_nil)))))) (pd_anil pa_nil))))) (blkOk_by (N := nm_law_generators) (sc := defScope s_law_generators) (by decide +kernel)) (fun _ _ _ _ _ => (pgA fun c => (pd_gname (pg_name (i := 4) sc_law_generators.nd rfl (by first | exact Or.inl rfl | exact Or.inr rfl))))) (fun _ _ _ _ _ => ptsN) (fun _ _ _ _ _ => (peA fun c => (pd_callI (pc_try (W := _) (ok_law_path T) (hr.mono (by decide)) (by rfl) T.g_law_path T.f_law_path.kp T.b_law_path takesF (pa_cons (pv 0) (pd_acons (pa_cons (pd_var (pv 2)) (pd_acons (pa_cons (pd_var (pv 3)) (pd_anil pa_nil)))))))))))))))

theorem sc_law_drawn : FnScope ["_law_pool_here", "_law_many", "_law_found", "_law_number", "_law_way"] ["_law_pool_here", "_law_many"] (defScope s_law_drawn) := ⟨rfl, rfl, rfl, by decide +kernel, rfl, by decide +kernel, by decide +kernel⟩
def nm_law_drawn : List Str := ["_law_pool_here", "_law_many", "_law_found", "_law_number", "_law_way"]
theorem ok_law_drawn (T : Txt K mg A) : FnG P w K mg base (L2.CX P w) 2 A.a_law_drawn A.d_law_drawn ["_law_pool_here", "_law_many"] (spI K mg 1 m_law_drawn) := by
  refine fnX T.f_law_drawn sc_law_drawn (fun vs H Q E h => h.1) (fun cdv A_ outer s H vs Q E hr h => ?_)
  refine ⟨_, pssA (wx := fun cls d _ H => E cls d H) (b := b_law_drawn) (fun c => ?_), runI_go (k := 3) rfl h⟩
  exact (pd_seq (pss_cons (pd_set (ps_set (i := 2) sc_law_drawn.nd rfl (by first | exact Or.inl rfl | exact Or.inr rfl) (pd_lst (pe_lst (pd_anil pa_nil)))))
      (pd_seq (pss_cons (pd_fo (ps_for (passes_of rfl) rfl (pd_rng1 (pi_range1 (by rfl) T.z_range (pd_acons (pa_cons (pd_callI (pc_try (W := _) (ok_law_take T) (hr.mono (by decide)) (by rfl) T.g_law_take T.f_law_take.kp T.b_law_take (takes_of rfl rfl rfl rfl) (pa_cons (pv 0) (pd_acons (pa_cons (pd_cI pe_int) (pd_anil pa_nil)))))) (pd_anil pa_nil))))) (pd_gname (pg_name (i := 3) sc_law_drawn.nd rfl (by first | exact Or.inl rfl | exact Or.inr rfl))) (pd_seq (pss_cons (pd_set (ps_set (i := 4) sc_law_drawn.nd rfl (by first | exact Or.inl rfl | exact Or.inr rfl) (pd_callI (pc_try (W := _) (ok_law_take T) (hr.mono (by decide)) (by rfl) T.g_law_take T.f_law_take.kp T.b_law_take (takes_of rfl rfl rfl rfl) (pa_cons (pv 0) (pd_acons (pa_cons (pd_cI pe_int) (pd_anil pa_nil))))))))
      (pss_one (pd_ifs (ps_if (PW.pt (pd_tand (pw_and (pd_tcmp d_gt (pt_cmpR op_gt (pd_var (pv 1)) (pd_cI pe_int) rfl)) (pw_and1 (PW.pt (pd_tor (pw_or (pd_tcmp d_lt (pt_cmpR (op_ltUK (K := K) rfl hr.units) (pd_var (pv 4)) (pd_cI pe_int) rfl)) (pw_or1 (pd_tcmp d_eq (pt_cmpR (op_eqW (K := K) rfl hr.units) (pd_var (pv 2)) (pd_lst (pe_lst (pd_anil pa_nil))) rfl)))))))))) (pss_one (pd_drop (ps_expr (pd_lm lm_append (pe_bmK (K := K) rfl (pe_bm PySem.F.plainAttrs_list PySem.F.slot_list_append PySem.F.type_list_append mt_append (pv 2) (pd_acons (pa_cons (pd_tup (pe_tup (pd_acons (pa_cons (pd_cS pe_str) (pd_acons (pa_cons (pd_callI (pc_try (W := _) (ok_law_take T) (hr.mono (by decide)) (by rfl) T.g_law_take T.f_law_take.kp T.b_law_take (takes_of rfl rfl rfl rfl) (pa_cons (pv 0) (pd_acons (pa_cons (pd_var (pv 1)) (pd_anil pa_nil)))))) (pd_anil pa_nil))))))) (pd_anil pa_nil))))))))) (pss_one (pd_ifs (ps_if (PW.pt (pd_tand (pw_and (pd_tcmp d_eq (pt_cmpR (op_eqW (K := K) rfl hr.units) (pd_var (pv 4)) (pd_cI pe_int) rfl)) (pw_and1 (pd_tcmp d_ne (pt_cmpR (op_neW (K := K) rfl hr.units) (pd_var (pv 2)) (pd_lst (pe_lst (pd_anil pa_nil))) rfl)))))) (pss_one (pd_drop (ps_expr (pd_lm lm_append (pe_bmK (K := K) rfl (pe_bm PySem.F.plainAttrs_list PySem.F.slot_list_append PySem.F.type_list_append mt_append (pv 2) (pd_acons (pa_cons (pd_tup (pe_tup (pd_acons (pa_cons (pd_cS pe_str) (pd_acons (pa_cons (pd_callI (pc_try (W := _) (ok_law_take T) (hr.mono (by decide)) (by rfl) T.g_law_take T.f_law_take.kp T.b_law_take (takes_of rfl rfl rfl rfl) (pa_cons (pv 0) (pd_acons (pa_cons (pd_var (pv 3)) (pd_anil pa_nil)))))) (pd_anil pa_nil))))))) (pd_anil pa_nil))))))))) (pss_one (pd_ifs (ps_if (pd_tcmp d_ne (pt_cmpR (op_neW (K := K) rfl hr.units) (pd_var (pv 2)) (pd_lst (pe_lst (pd_anil pa_nil))) rfl)) (pss_one (pd_drop (ps_expr (pd_lm lm_append (pe_bmK (K := K) rfl (pe_bm PySem.F.plainAttrs_list PySem.F.slot_list_append PySem.F.type_list_append mt_append (pv 2) (pd_acons (pa_cons (pd_tup (pe_tup (pd_acons (pa_cons (pd_cS pe_str) (pd_acons (pa_cons (pd_callI (pc_try (W := _) (ok_law_take T) (hr.mono (by decide)) (by rfl) T.g_law_take T.f_law_take.kp T.b_law_take (takes_of rfl rfl rfl rfl) (pa_cons (pv 0) (pd_acons (pa_cons (pd_var (pv 3)) (pd_anil pa_nil)))))) (pd_acons (pa_cons (pd_callI (pc_try (W := _) (ok_law_take T) (hr.mono (by decide)) (by rfl) T.g_law_take T.f_law_take.kp T.b_law_take (takes_of rfl rfl rfl rfl) (pa_cons (pv 0) (pd_acons (pa_cons (pd_var (pv 3)) (pd_anil pa_nil)))))) (pd_anil pa_nil))))))))) (pd_anil pa_nil))))))))) (pd_nil pss_nil))))))))))))))
      (pss_one (pd_ret (ps_ret (pd_var (pv 2)))))))))

theorem sc_law_is_number : FnScope ["_law_thing", "_law_most"] ["_law_thing", "_law_most"] (defScope s_law_is_number) := ⟨rfl, rfl, rfl, by decide +kernel, rfl, by decide +kernel, by decide +kernel⟩
def nm_law_is_number : List Str := ["_law_thing", "_law_most"]
theorem ok_law_is_number (T : Txt K mg A) : FnG P w K mg base (L2.CX P w) 1 A.a_law_is_number A.d_law_is_number ["_law_thing", "_law_most"] (spP K mg 2 m_law_is_number) := by
  refine fnX T.f_law_is_number sc_law_is_number (fun vs H Q E h => h.1) (fun cdv A_ outer s H vs Q E hr h => ?_)
  refine ⟨_, pssA (wx := fun cls d _ H => E cls d H) (b := b_law_is_number) (fun c => ?_), runP_go (k := 0) rfl h⟩
  exact (pss_one (pd_ret (ps_ret (pd_and (pe_andTK (K := K) rfl (pd_cb d_isa (pe_callB (call_isiUK (K := K) rfl) (by rfl) T.z_isinstance PyProof.Rows.boot_isinstance (pd_acons (pa_cons (pd_var (pv 0)) (pd_acons (pa_cons (pd_c (pe_bltn (v := .ty "int") (by rfl) T.z_int (by decide +kernel) rfl) (fun _ => .ty _)) (pd_anil pa_nil))))))) (pd_and (pe_andTK (K := K) rfl (pd_not (pe_not (pd_cb d_isa (pe_callB (call_isiUK (K := K) rfl) (by rfl) T.z_isinstance PyProof.Rows.boot_isinstance (pd_acons (pa_cons (pd_var (pv 0)) (pd_acons (pa_cons (pd_c (pe_bltn (v := .ty "bool") (by rfl) T.z_bool (by decide +kernel) rfl) (fun _ => .ty _)) (pd_anil pa_nil))))))))) (pe_one (pd_chain d_le d_lt (pe_chain op_le (op_ltUK (K := K) rfl hr.units) (pd_cI pe_int) (pd_var (pv 0)) (pd_var (pv 1))))))))))))

theorem sc_law_is_line : FnScope ["_law_line", "_law_number", "_law_many"] ["_law_line", "_law_number", "_law_many"] (defScope s_law_is_line) := ⟨rfl, rfl, rfl, by decide +kernel, rfl, by decide +kernel, by decide +kernel⟩
def nm_law_is_line : List Str := ["_law_line", "_law_number", "_law_many"]
theorem ok_law_is_line (T : Txt K mg A) : FnG P w K mg base (L2.CX P w) 2 A.a_law_is_line A.d_law_is_line ["_law_line", "_law_number", "_law_many"] (spP K mg 3 m_law_is_line) := by
  refine fnX T.f_law_is_line sc_law_is_line (fun vs H Q E h => h.1) (fun cdv A_ outer s H vs Q E hr h => ?_)
  refine ⟨_, pssA (wx := fun cls d _ H => E cls d H) (b := b_law_is_line) (fun c => ?_), runP_go (k := 0) rfl h⟩
  exact (pd_seq (pss_cons (pd_ifs (ps_if (PW.pt (pd_tor (pw_or (pd_tnot (pt_not (pd_tval (pt_val (pd_cb d_isa (pe_callB (call_isiUK (K := K) rfl) (by rfl) T.z_isinstance PyProof.Rows.boot_isinstance (pd_acons (pa_cons (pd_var (pv 0)) (pd_acons (pa_cons (pd_c (pe_bltn (v := .ty "tuple") (by rfl) T.z_tuple (by decide +kernel) rfl) (fun _ => .ty _)) (pd_anil pa_nil))))))))))) (pd_tor (pw_or (pd_tcmp d_eq (pt_cmpR (op_eqW (K := K) rfl hr.units) (pd_var (pv 0)) (pd_tup (pe_tup (pd_anil pa_nil))) rfl)) (pw_or1 (pd_tnot (pt_not (pd_tval (pt_val (pd_cb d_isa (pe_callB (call_isiUK (K := K) rfl) (by rfl) T.z_isinstance PyProof.Rows.boot_isinstance (pd_acons (pa_cons (pd_op2 d_ix (pe_ix (ix_seqK (K := K) rfl) (pd_var (pv 0)) (pd_cI pe_int) (fun _ _ => rfl))) (pd_acons (pa_cons (pd_c (pe_bltn (v := .ty "str") (by rfl) T.z_str (by decide +kernel) rfl) (fun _ => .ty _)) (pd_anil pa_nil))))))))))))))))) (pss_one (pd_ret (ps_ret (pd_cB pe_bl)))) (pd_nil pss_nil)))
      (pd_seq (pss_cons (pd_ifs (ps_if (pd_tcmp d_eq (pt_cmpR (op_eqW (K := K) rfl hr.units) (pd_op2 d_ix (pe_ix (ix_seqK (K := K) rfl) (pd_var (pv 0)) (pd_cI pe_int) (fun _ _ => rfl))) (pd_cS pe_str) rfl)) (pss_one (pd_ret (ps_ret (pd_and (pe_andTK (K := K) rfl (pd_op2 d_eq (pe_cmpR (op_eqW (K := K) rfl hr.units) (pd_cb d_len (pe_callB (call_lenUK (K := K) rfl) (by rfl) T.z_len PySem.boot_len (pd_acons (pa_cons (pd_var (pv 0)) (pd_anil pa_nil))))) (pd_cI pe_int) rfl)) (pe_one (pd_call (pc_try (W := _) (ok_law_is_number T) (hr.mono (by decide)) (by rfl) T.g_law_is_number T.f_law_is_number.kp T.b_law_is_number (takes_of rfl rfl rfl rfl) (pd_acons (pa_cons (pd_op2 d_ix (pe_ix (ix_seqK (K := K) rfl) (pd_var (pv 0)) (pd_cI pe_int) (fun _ _ => rfl))) (pd_acons (pa_cons (pd_var (pv 2)) (pd_anil pa_nil))))))))))))) (pd_nil pss_nil)))
      (pd_seq (pss_cons (pd_ifs (ps_if (pd_tcmp d_eq (pt_cmpR (op_eqW (K := K) rfl hr.units) (pd_op2 d_ix (pe_ix (ix_seqK (K := K) rfl) (pd_var (pv 0)) (pd_cI pe_int) (fun _ _ => rfl))) (pd_cS pe_str) rfl)) (pss_one (pd_ret (ps_ret (pd_and (pe_andTK (K := K) rfl (pd_op2 d_eq (pe_cmpR (op_eqW (K := K) rfl hr.units) (pd_cb d_len (pe_callB (call_lenUK (K := K) rfl) (by rfl) T.z_len PySem.boot_len (pd_acons (pa_cons (pd_var (pv 0)) (pd_anil pa_nil))))) (pd_cI pe_int) rfl)) (pe_one (pd_call (pc_try (W := _) (ok_law_is_number T) (hr.mono (by decide)) (by rfl) T.g_law_is_number T.f_law_is_number.kp T.b_law_is_number (takes_of rfl rfl rfl rfl) (pd_acons (pa_cons (pd_op2 d_ix (pe_ix (ix_seqK (K := K) rfl) (pd_var (pv 0)) (pd_cI pe_int) (fun _ _ => rfl))) (pd_acons (pa_cons (pd_var (pv 1)) (pd_anil pa_nil))))))))))))) (pd_nil pss_nil)))
      (pd_seq (pss_cons (pd_ifs (ps_if (PW.pt (pd_tor (pw_or (pd_tcmp d_ne (pt_cmpR (op_neW (K := K) rfl hr.units) (pd_op2 d_ix (pe_ix (ix_seqK (K := K) rfl) (pd_var (pv 0)) (pd_cI pe_int) (fun _ _ => rfl))) (pd_cS pe_str) rfl)) (pw_or1 (pd_tcmp d_ne (pt_cmpR (op_neW (K := K) rfl hr.units) (pd_cb d_len (pe_callB (call_lenUK (K := K) rfl) (by rfl) T.z_len PySem.boot_len (pd_acons (pa_cons (pd_var (pv 0)) (pd_anil pa_nil))))) (pd_cI pe_int) rfl)))))) (pss_one (pd_ret (ps_ret (pd_cB pe_bl)))) (pd_nil pss_nil)))
      (pss_one (pd_ret (ps_ret (pd_and (pe_andTK (K := K) rfl (pd_call (pc_try (W := _) (ok_law_is_number T) (hr.mono (by decide)) (by rfl) T.g_law_is_number T.f_law_is_number.kp T.b_law_is_number (takes_of rfl rfl rfl rfl) (pd_acons (pa_cons (pd_op2 d_ix (pe_ix (ix_seqK (K := K) rfl) (pd_var (pv 0)) (pd_cI pe_int) (fun _ _ => rfl))) (pd_acons (pa_cons (pd_var (pv 1)) (pd_anil pa_nil))))))) (pe_one (pd_call (pc_try (W := _) (ok_law_is_number T) (hr.mono (by decide)) (by rfl) T.g_law_is_number T.f_law_is_number.kp T.b_law_is_number (takes_of rfl rfl rfl rfl) (pd_acons (pa_cons (pd_op2 d_ix (pe_ix (ix_seqK (K := K) rfl) (pd_var (pv 0)) (pd_cI pe_int) (fun _ _ => rfl))) (pd_acons (pa_cons (pd_var (pv 1)) (pd_anil pa_nil)))))))))))))))))))))

theorem sc_law_inverse_step : FnScope ["_law_step"] ["_law_step"] (defScope s_law_inverse_step) := ⟨rfl, rfl, rfl, by decide +kernel, rfl, by decide +kernel, by decide +kernel⟩
def nm_law_inverse_step : List Str := ["_law_step"]
theorem ok_law_inverse_step (T : Txt K mg A) : FnG P w K mg base (L2.CX P w) 1 A.a_law_inverse_step A.d_law_inverse_step ["_law_step"] (spP K mg 1 m_law_inverse_step) := by
  refine fnX T.f_law_inverse_step sc_law_inverse_step (fun vs H Q E h => h.1) (fun cdv A_ outer s H vs Q E hr h => ?_)
  refine ⟨_, pssA (wx := fun cls d _ H => E cls d H) (b := b_law_inverse_step) (fun c => ?_), runP_go (k := 0) rfl h⟩
  exact (pss_one (pd_ret (ps_ret (pd_op2 d_ix (pe_ix (ix_seqK (K := K) rfl) (pd_cS pe_str) (pd_op2 d_xor (pe_op op_xor (pd_m1 d_index (pe_m1 PySem.F.slot_str_index PySem.F.type_str_index mt_sindex (pd_cS pe_str) (pd_var (pv 0)))) (pd_cI pe_int))) (fun _ _ => rfl))))))

theorem sc_law_reduced : FnScope ["_law_path_here", "_law_found", "_law_step"] ["_law_path_here"] (defScope s_law_reduced) := ⟨rfl, rfl, rfl, by decide +kernel, rfl, by decide +kernel, by decide +kernel⟩
def nm_law_reduced : List Str := ["_law_path_here", "_law_found", "_law_step"]
theorem ok_law_reduced (T : Txt K mg A) : FnG P w K mg base (L2.CX P w) 2 A.a_law_reduced A.d_law_reduced ["_law_path_here"] (spP K mg 1 m_law_reduced) := by
  refine fnX T.f_law_reduced sc_law_reduced (fun vs H Q E h => h.1) (fun cdv A_ outer s H vs Q E hr h => ?_)
  refine ⟨_, pssA (wx := fun cls d _ H => E cls d H) (b := b_law_reduced) (fun c => ?_), runP_go (k := 2) rfl h⟩
  exact (pd_seq (pss_cons (pd_set (ps_set (i := 1) sc_law_reduced.nd rfl (by first | exact Or.inl rfl | exact Or.inr rfl) (pd_cS pe_str)))
      (pd_seq (pss_cons (pd_fo (ps_for (passes_of rfl) rfl (pd_iof (pi_anyK (K := K) rfl (pd_var (pv 0)))) (pd_gname (pg_name (i := 2) sc_law_reduced.nd rfl (by first | exact Or.inl rfl | exact Or.inr rfl))) (pss_one (pd_ifs (ps_if (PW.pt (pd_tand (pw_and (pd_tcmp d_ne (pt_cmpR (op_neW (K := K) rfl hr.units) (pd_var (pv 1)) (pd_cS pe_str) rfl)) (pw_and1 (pd_tcmp d_eq (pt_cmpR (op_eqW (K := K) rfl hr.units) (pd_op2 d_ix (pe_ix (ix_seqK (K := K) rfl) (pd_var (pv 1)) (pd_op1 d_neg (pe_un un_neg (pd_cI pe_int))) (fun _ _ => rfl))) (pd_call (pc_try (W := _) (ok_law_inverse_step T) (hr.mono (by decide)) (by rfl) T.g_law_inverse_step T.f_law_inverse_step.kp T.b_law_inverse_step (takes_of rfl rfl rfl rfl) (pd_acons (pa_cons (pd_var (pv 2)) (pd_anil pa_nil))))) rfl)))))) (pss_one (pd_set (ps_set (i := 1) sc_law_reduced.nd rfl (by first | exact Or.inl rfl | exact Or.inr rfl) (pd_sl (pe_slice (sl_UT (K := K) rfl) (pd_var (pv 1)) (pd_noP po_none) (pd_part (po_some (pd_op1 d_neg (pe_un un_neg (pd_cI pe_int)))))))))) (pss_one (pd_set (ps_set (i := 1) sc_law_reduced.nd rfl (by first | exact Or.inl rfl | exact Or.inr rfl) (pd_op2 d_add (pe_op (op_addUT (K := K) rfl) (pd_var (pv 1)) (pd_var (pv 2))))))))))))
      (pss_one (pd_ret (ps_ret (pd_var (pv 1)))))))))

theorem sc_law_inverse : FnScope ["_law_path_here", "_law_step"] ["_law_path_here"] (defScope s_law_inverse) := ⟨rfl, rfl, rfl, by decide +kernel, rfl, by decide +kernel, by decide +kernel⟩
def nm_law_inverse : List Str := ["_law_path_here", "_law_step"]
theorem ok_law_inverse (T : Txt K mg A) : FnG P w K mg base (L2.CX P w) 2 A.a_law_inverse A.d_law_inverse ["_law_path_here"] (spP K mg 1 m_law_inverse) := by
  refine fnX T.f_law_inverse sc_law_inverse (fun vs H Q E h => h.1) (fun cdv A_ outer s H vs Q E hr h => ?_)
  refine ⟨_, pssA (wx := fun cls d _ H => E cls d H) (b := b_law_inverse) (fun c => ?_), runP_go (k := 1) rfl h⟩
  exact (pss_one (pd_ret (ps_ret (pd_m1 d_join (pe_m1 PySem.F.slot_str_join PySem.F.type_str_join (mt_joinK (K := K) rfl) (pd_cS pe_str) (pd_lc (pe_lc (own := [("_law_step", 1)]) rfl sc_law_inverse.nd (pd_iof (pi_anyK (K := K) rfl (pd_rev (peOr (pe_revS (pd_var (pv 0))) (pe_revLK (K := K) rfl (pd_var (pv 0))))))) (blkOk_by (N := nm_law_inverse) (sc := defScope s_law_inverse) (by decide +kernel)) (fun _ _ _ _ _ => (pgA fun c => (pd_gname (pg_name (i := 1) sc_law_inverse.nd rfl (by first | exact Or.inl rfl | exact Or.inr rfl))))) (fun _ _ _ _ _ => ptsN) (fun _ _ _ _ _ => (peA fun c => (pd_call (pc_try (W := _) (ok_law_inverse_step T) (hr.mono (by decide)) (by rfl) T.g_law_inverse_step T.f_law_inverse_step.kp T.b_law_inverse_step takesF (pd_acons (pa_cons (pd_var (pv 1)) (pd_anil pa_nil))))))))))))))

theorem sc_law_value : FnScope ["_law_paths", "_law_derivation", "_law_found", "_law_number", "_law_line"] ["_law_paths", "_law_derivation"] (defScope s_law_value) := ⟨rfl, rfl, rfl, by decide +kernel, rfl, by decide +kernel, by decide +kernel⟩
def nm_law_value : List Str := ["_law_paths", "_law_derivation", "_law_found", "_law_number", "_law_line"]
theorem ok_law_value (T : Txt K mg A) : FnG P w K mg base (L2.CX P w) 3 A.a_law_value A.d_law_value ["_law_paths", "_law_derivation"] (spP K mg 2 m_law_value) := by
  refine fnX T.f_law_value sc_law_value (fun vs H Q E h => h.1) (fun cdv A_ outer s H vs Q E hr h => ?_)
  refine ⟨_, pssA (wx := fun cls d _ H => E cls d H) (b := b_law_value) (fun c => ?_), runP_go (k := 3) rfl h⟩
  exact (pd_seq (pss_cons (pd_ifs (ps_if (pd_tnot (pt_not (pd_tval (pt_val (pd_cb d_isa (pe_callB (call_isiUK (K := K) rfl) (by rfl) T.z_isinstance PyProof.Rows.boot_isinstance (pd_acons (pa_cons (pd_var (pv 1)) (pd_acons (pa_cons (pd_c (pe_bltn (v := .ty "list") (by rfl) T.z_list (by decide +kernel) rfl) (fun _ => .ty _)) (pd_anil pa_nil))))))))))) (pss_one (pd_ret (ps_ret (pd_cN pe_non)))) (pd_nil pss_nil)))
      (pd_seq (pss_cons (pd_set (ps_set (i := 2) sc_law_value.nd rfl (by first | exact Or.inl rfl | exact Or.inr rfl) (pd_lst (pe_lst (pd_acons (pa_cons (pd_cS pe_str) (pd_anil pa_nil)))))))
      (pd_seq (pss_cons (pd_fo (ps_for (passes_of rfl) rfl (pd_enum (pi_enA (K := K) rfl (by rfl) T.z_enumerate (pd_acons (pa_cons (pd_var (pv 1)) (pd_anil pa_nil))))) (pd_gtup (pg_tupK (K := K) (n := 2) rfl rfl (pd_gcons (pgs_cons (pd_gname (pg_name (i := 3) sc_law_value.nd rfl (by first | exact Or.inl rfl | exact Or.inr rfl))) (pd_gcons (pgs_cons (pd_gname (pg_name (i := 4) sc_law_value.nd rfl (by first | exact Or.inl rfl | exact Or.inr rfl))) (pd_gnil pgs_nil))))))) (pd_seq (pss_cons (pd_ifs (ps_if (pd_tnot (pt_not (pd_tval (pt_val (pd_call (pc_try (W := _) (ok_law_is_line T) (hr.mono (by decide)) (by rfl) T.g_law_is_line T.f_law_is_line.kp T.b_law_is_line (takes_of rfl rfl rfl rfl) (pd_acons (pa_cons (pd_var (pv 4)) (pd_acons (pa_cons (pd_var (pv 3)) (pd_acons (pa_cons (pd_cb d_len (pe_callB (call_lenUK (K := K) rfl) (by rfl) T.z_len PySem.boot_len (pd_acons (pa_cons (pd_var (pv 0)) (pd_anil pa_nil))))) (pd_anil pa_nil))))))))))))) (pss_one (pd_ret (ps_ret (pd_cN pe_non)))) (pd_nil pss_nil)))
      (pd_seq (pss_cons (pd_ifs (ps_if (pd_tcmp d_eq (pt_cmpR (op_eqW (K := K) rfl hr.units) (pd_op2 d_ix (pe_ix (ix_seqK (K := K) rfl) (pd_var (pv 4)) (pd_cI pe_int) (fun _ _ => rfl))) (pd_cS pe_str) rfl)) (pss_one (pd_drop (ps_expr (pd_lm lm_append (pe_bmK (K := K) rfl (pe_bm PySem.F.plainAttrs_list PySem.F.slot_list_append PySem.F.type_list_append mt_append (pv 2) (pd_acons (pa_cons (pd_call (pc_try (W := _) (ok_law_reduced T) (hr.mono (by decide)) (by rfl) T.g_law_reduced T.f_law_reduced.kp T.b_law_reduced (takes_of rfl rfl rfl rfl) (pd_acons (pa_cons (pd_op2 d_ix (pe_ix (ix_seqK (K := K) rfl) (pd_var (pv 0)) (pd_op2 d_ix (pe_ix (ix_seqK (K := K) rfl) (pd_var (pv 4)) (pd_cI pe_int) (fun _ _ => rfl))) (fun _ _ => rfl))) (pd_anil pa_nil))))) (pd_anil pa_nil))))))))) (pss_one (pd_ifs (ps_if (pd_tcmp d_eq (pt_cmpR (op_eqW (K := K) rfl hr.units) (pd_op2 d_ix (pe_ix (ix_seqK (K := K) rfl) (pd_var (pv 4)) (pd_cI pe_int) (fun _ _ => rfl))) (pd_cS pe_str) rfl)) (pss_one (pd_drop (ps_expr (pd_lm lm_append (pe_bmK (K := K) rfl (pe_bm PySem.F.plainAttrs_list PySem.F.slot_list_append PySem.F.type_list_append mt_append (pv 2) (pd_acons (pa_cons (pd_call (pc_try (W := _) (ok_law_inverse T) (hr.mono (by decide)) (by rfl) T.g_law_inverse T.f_law_inverse.kp T.b_law_inverse (takes_of rfl rfl rfl rfl) (pd_acons (pa_cons (pd_op2 d_ix (pe_ix (ix_seqK (K := K) rfl) (pd_var (pv 2)) (pd_op2 d_add (pe_op (op_addUT (K := K) rfl) (pd_op2 d_ix (pe_ix (ix_seqK (K := K) rfl) (pd_var (pv 4)) (pd_cI pe_int) (fun _ _ => rfl))) (pd_cI pe_int))) (fun _ _ => rfl))) (pd_anil pa_nil))))) (pd_anil pa_nil))))))))) (pss_one (pd_drop (ps_expr (pd_lm lm_append (pe_bmK (K := K) rfl (pe_bm PySem.F.plainAttrs_list PySem.F.slot_list_append PySem.F.type_list_append mt_append (pv 2) (pd_acons (pa_cons (pd_call (pc_try (W := _) (ok_law_reduced T) (hr.mono (by decide)) (by rfl) T.g_law_reduced T.f_law_reduced.kp T.b_law_reduced (takes_of rfl rfl rfl rfl) (pd_acons (pa_cons (pd_op2 d_add (pe_op (op_addUT (K := K) rfl) (pd_op2 d_ix (pe_ix (ix_seqK (K := K) rfl) (pd_var (pv 2)) (pd_op2 d_add (pe_op (op_addUT (K := K) rfl) (pd_op2 d_ix (pe_ix (ix_seqK (K := K) rfl) (pd_var (pv 4)) (pd_cI pe_int) (fun _ _ => rfl))) (pd_cI pe_int))) (fun _ _ => rfl))) (pd_op2 d_ix (pe_ix (ix_seqK (K := K) rfl) (pd_var (pv 2)) (pd_op2 d_add (pe_op (op_addUT (K := K) rfl) (pd_op2 d_ix (pe_ix (ix_seqK (K := K) rfl) (pd_var (pv 4)) (pd_cI pe_int) (fun _ _ => rfl))) (pd_cI pe_int))) (fun _ _ => rfl))))) (pd_anil pa_nil))))) (pd_anil pa_nil))))))))))))))
      (pss_one (pd_ifs (ps_if (pd_tcmp d_gt (pt_cmpR op_gt (pd_cb d_len (pe_callB (call_lenUK (K := K) rfl) (by rfl) T.z_len PySem.boot_len (pd_acons (pa_cons (pd_op2 d_ix (pe_ix (ix_seqK (K := K) rfl) (pd_var (pv 2)) (pd_op1 d_neg (pe_un un_neg (pd_cI pe_int))) (fun _ _ => rfl))) (pd_anil pa_nil))))) (pd_cI pe_int) rfl)) (pss_one (pd_ret (ps_ret (pd_cN pe_non)))) (pd_nil pss_nil))))))))))
      (pss_one (pd_ret (ps_ret (pd_op2 d_ix (pe_ix (ix_seqK (K := K) rfl) (pd_var (pv 2)) (pd_op1 d_neg (pe_un un_neg (pd_cI pe_int))) (fun _ _ => rfl))))))))))))

theorem sc_law_odd : FnScope ["_law_pool_here", "_law_at", "_law_many", "_law_far", "_law_some"] ["_law_pool_here", "_law_at", "_law_many"] (defScope s_law_odd) := ⟨rfl, rfl, rfl, by decide +kernel, rfl, by decide +kernel, by decide +kernel⟩
def nm_law_odd : List Str := ["_law_pool_here", "_law_at", "_law_many", "_law_far", "_law_some"]
theorem ok_law_odd (T : Txt K mg A) : FnG P w K mg base (L2.CX P w) 2 A.a_law_odd A.d_law_odd ["_law_pool_here", "_law_at", "_law_many"] (spI K mg 2 m_law_odd) := by
  refine fnX T.f_law_odd sc_law_odd (fun vs H Q E h => h.1) (fun cdv A_ outer s H vs Q E hr h => ?_)
  refine ⟨_, pssA (wx := fun cls d _ H => E cls d H) (b := b_law_odd) (fun c => ?_), runI_go (k := 2) rfl h⟩
  exact (pd_seq (pss_cons (pd_set (ps_set (i := 3) sc_law_odd.nd rfl (by first | exact Or.inl rfl | exact Or.inr rfl) (pd_op2 d_ix (pe_ix (ix_seqK (K := K) rfl) (pd_lst (pe_lst (pd_acons (pa_cons (pd_op1 d_neg (pe_un un_neg (pd_cI pe_int))) (pd_acons (pa_cons (pd_var (pv 2)) (pd_acons (pa_cons (pd_var (pv 1)) (pd_acons (pa_cons (pd_op2 d_add (pe_op (op_addUT (K := K) rfl) (pd_var (pv 1)) (pd_cI pe_int))) (pd_acons (pa_cons (pd_cB pe_bl) (pd_acons (pa_cons (pd_cN pe_non) (pd_acons (pa_cons (pd_cS pe_str) (pd_acons (pa_cons (pd_op2 d_pow (pe_op op_pow (pd_cI pe_int) (pd_cI pe_int))) (pd_acons (pa_cons (pd_tup (pe_tup (pd_acons (pa_cons (pd_cI pe_int) (pd_anil pa_nil))))) (pd_acons (pa_cons (pd_lst (pe_lst (pd_acons (pa_cons (pd_cI pe_int) (pd_anil pa_nil))))) (pd_anil pa_nil))))))))))))))))))))))) (pd_callI (pc_try (W := _) (ok_law_take T) (hr.mono (by decide)) (by rfl) T.g_law_take T.f_law_take.kp T.b_law_take (takes_of rfl rfl rfl rfl) (pa_cons (pv 0) (pd_acons (pa_cons (pd_cI pe_int) (pd_anil pa_nil)))))) (fun _ _ => rfl)))))
      (pd_seq (pss_cons (pd_set (ps_set (i := 4) sc_law_odd.nd rfl (by first | exact Or.inl rfl | exact Or.inr rfl) (pd_lst (pe_lst (pd_acons (pa_cons (pd_tup (pe_tup (pd_acons (pa_cons (pd_cS pe_str) (pd_acons (pa_cons (pd_var (pv 3)) (pd_anil pa_nil))))))) (pd_acons (pa_cons (pd_tup (pe_tup (pd_acons (pa_cons (pd_cS pe_str) (pd_acons (pa_cons (pd_var (pv 3)) (pd_anil pa_nil))))))) (pd_acons (pa_cons (pd_tup (pe_tup (pd_acons (pa_cons (pd_cS pe_str) (pd_acons (pa_cons (pd_var (pv 3)) (pd_acons (pa_cons (pd_cI pe_int) (pd_anil pa_nil))))))))) (pd_acons (pa_cons (pd_tup (pe_tup (pd_acons (pa_cons (pd_cS pe_str) (pd_acons (pa_cons (pd_cI pe_int) (pd_acons (pa_cons (pd_var (pv 3)) (pd_anil pa_nil))))))))) (pd_acons (pa_cons (pd_tup (pe_tup (pd_acons (pa_cons (pd_cS pe_str) (pd_anil pa_nil))))) (pd_anil pa_nil)))))))))))))))
      (pd_seq (pss_cons (pd_set (ps_set (i := 4) sc_law_odd.nd rfl (by first | exact Or.inl rfl | exact Or.inr rfl) (pd_op2 d_add (pe_op (op_addUT (K := K) rfl) (pd_var (pv 4)) (pd_lst (pe_lst (pd_acons (pa_cons (pd_tup (pe_tup (pd_acons (pa_cons (pd_cS pe_str) (pd_acons (pa_cons (pd_cI pe_int) (pd_acons (pa_cons (pd_cI pe_int) (pd_anil pa_nil))))))))) (pd_acons (pa_cons (pd_tup (pe_tup (pd_acons (pa_cons (pd_cS pe_str) (pd_acons (pa_cons (pd_cI pe_int) (pd_anil pa_nil))))))) (pd_acons (pa_cons (pd_lst (pe_lst (pd_acons (pa_cons (pd_cS pe_str) (pd_acons (pa_cons (pd_cI pe_int) (pd_anil pa_nil))))))) (pd_acons (pa_cons (pd_cS pe_str) (pd_acons (pa_cons (pd_cN pe_non) (pd_acons (pa_cons (pd_tup (pe_tup (pd_anil pa_nil))) (pd_acons (pa_cons (pd_tup (pe_tup (pd_acons (pa_cons (pd_cS pe_str) (pd_acons (pa_cons (pd_cI pe_int) (pd_anil pa_nil))))))) (pd_anil pa_nil)))))))))))))))))))))
      (pd_seq (pss_cons (pd_set (ps_set (i := 4) sc_law_odd.nd rfl (by first | exact Or.inl rfl | exact Or.inr rfl) (pd_op2 d_add (pe_op (op_addUT (K := K) rfl) (pd_var (pv 4)) (pd_lst (pe_lst (pd_acons (pa_cons (pd_tup (pe_tup (pd_acons (pa_cons (pd_cI pe_int) (pd_acons (pa_cons (pd_cS pe_str) (pd_anil pa_nil))))))) (pd_acons (pa_cons (pd_tup (pe_tup (pd_acons (pa_cons (pd_cS pe_str) (pd_acons (pa_cons (pd_cI pe_int) (pd_acons (pa_cons (pd_cI pe_int) (pd_anil pa_nil))))))))) (pd_acons (pa_cons (pd_dnewK pe_dnewK) (pd_acons (pa_cons (pd_cI pe_int) (pd_acons (pa_cons (pd_tup (pe_tup (pd_acons (pa_cons (pd_lst (pe_lst (pd_acons (pa_cons (pd_cS pe_str) (pd_anil pa_nil))))) (pd_acons (pa_cons (pd_cI pe_int) (pd_anil pa_nil))))))) (pd_acons (pa_cons (pd_tup (pe_tup (pd_acons (pa_cons (pd_dnewK pe_dnewK) (pd_acons (pa_cons (pd_cI pe_int) (pd_anil pa_nil))))))) (pd_anil pa_nil)))))))))))))))))))
      (pss_one (pd_ret (ps_ret (pd_op2 d_ix (pe_ix (ix_seqK (K := K) rfl) (pd_var (pv 4)) (pd_callI (pc_try (W := _) (ok_law_take T) (hr.mono (by decide)) (by rfl) T.g_law_take T.f_law_take.kp T.b_law_take (takes_of rfl rfl rfl rfl) (pa_cons (pv 0) (pd_acons (pa_cons (pd_cI pe_int) (pd_anil pa_nil)))))) (fun _ _ => rfl))))))))))))))

theorem sc_law_bent : FnScope ["_law_pool_here", "_law_derivation", "_law_many", "_law_at", "_law_odd_here", "_law_some"] ["_law_pool_here", "_law_derivation", "_law_many"] (defScope s_law_bent) := ⟨rfl, rfl, rfl, by decide +kernel, rfl, by decide +kernel, by decide +kernel⟩
def nm_law_bent : List Str := ["_law_pool_here", "_law_derivation", "_law_many", "_law_at", "_law_odd_here", "_law_some"]
theorem ok_law_bent (T : Txt K mg A) : FnG P w K mg base (L2.CX P w) 3 A.a_law_bent A.d_law_bent ["_law_pool_here", "_law_derivation", "_law_many"] (spI K mg 2 m_law_bent) := by
  refine fnX T.f_law_bent sc_law_bent (fun vs H Q E h => h.1) (fun cdv A_ outer s H vs Q E hr h => ?_)
  refine ⟨_, pssA (wx := fun cls d _ H => E cls d H) (b := b_law_bent) (fun c => ?_), runI_go (k := 3) rfl h⟩
  exact (pd_seq (pss_cons (pd_set (ps_set (i := 3) sc_law_bent.nd rfl (by first | exact Or.inl rfl | exact Or.inr rfl) (pd_callI (pc_try (W := _) (ok_law_take T) (hr.mono (by decide)) (by rfl) T.g_law_take T.f_law_take.kp T.b_law_take (takes_of rfl rfl rfl rfl) (pa_cons (pv 0) (pd_acons (pa_cons (pd_op2 d_add (pe_op (op_addUT (K := K) rfl) (pd_cb d_len (pe_callB (call_lenUK (K := K) rfl) (by rfl) T.z_len PySem.boot_len (pd_acons (pa_cons (pd_var (pv 1)) (pd_anil pa_nil))))) (pd_cI pe_int))) (pd_anil pa_nil))))))))
      (pd_seq (pss_cons (pd_set (ps_set (i := 4) sc_law_bent.nd rfl (by first | exact Or.inl rfl | exact Or.inr rfl) (pd_callI (pc_try (W := _) (ok_law_odd T) (hr.mono (by decide)) (by rfl) T.g_law_odd T.f_law_odd.kp T.b_law_odd (takes_of rfl rfl rfl rfl) (pa_cons (pv 0) (pd_acons (pa_cons (pd_var (pv 3)) (pd_acons (pa_cons (pd_var (pv 2)) (pd_anil pa_nil))))))))))
      (pd_seq (pss_cons (pd_set (ps_set (i := 5) sc_law_bent.nd rfl (by first | exact Or.inl rfl | exact Or.inr rfl) (pd_lst (pe_lst (pd_acons (pa_cons (pd_op2 d_add (pe_op (op_addUT (K := K) rfl) (pd_op2 d_add (pe_op (op_addUT (K := K) rfl) (pd_sl (pe_slice (sl_UT (K := K) rfl) (pd_var (pv 1)) (pd_noP po_none) (pd_part (po_some (pd_var (pv 3)))))) (pd_lst (pe_lst (pd_acons (pa_cons (pd_var (pv 4)) (pd_anil pa_nil))))))) (pd_sl (pe_slice (sl_UT (K := K) rfl) (pd_var (pv 1)) (pd_part (po_some (pd_var (pv 3)))) (pd_noP po_none))))) (pd_acons (pa_cons (pd_op2 d_add (pe_op (op_addUT (K := K) rfl) (pd_op2 d_add (pe_op (op_addUT (K := K) rfl) (pd_sl (pe_slice (sl_UT (K := K) rfl) (pd_var (pv 1)) (pd_noP po_none) (pd_part (po_some (pd_var (pv 3)))))) (pd_lst (pe_lst (pd_acons (pa_cons (pd_var (pv 4)) (pd_anil pa_nil))))))) (pd_sl (pe_slice (sl_UT (K := K) rfl) (pd_var (pv 1)) (pd_part (po_some (pd_op2 d_add (pe_op (op_addUT (K := K) rfl) (pd_var (pv 3)) (pd_cI pe_int))))) (pd_noP po_none))))) (pd_anil pa_nil)))))))))
      (pd_seq (pss_cons (pd_set (ps_set (i := 5) sc_law_bent.nd rfl (by first | exact Or.inl rfl | exact Or.inr rfl) (pd_op2 d_add (pe_op (op_addUT (K := K) rfl) (pd_var (pv 5)) (pd_lst (pe_lst (pd_acons (pa_cons (pd_op2 d_add (pe_op (op_addUT (K := K) rfl) (pd_sl (pe_slice (sl_UT (K := K) rfl) (pd_var (pv 1)) (pd_noP po_none) (pd_part (po_some (pd_var (pv 3)))))) (pd_sl (pe_slice (sl_UT (K := K) rfl) (pd_var (pv 1)) (pd_part (po_some (pd_op2 d_add (pe_op (op_addUT (K := K) rfl) (pd_var (pv 3)) (pd_cI pe_int))))) (pd_noP po_none))))) (pd_anil pa_nil)))))))))
      (pss_one (pd_ret (ps_ret (pd_op2 d_ix (pe_ix (ix_seqK (K := K) rfl) (pd_op2 d_add (pe_op (op_addUT (K := K) rfl) (pd_var (pv 5)) (pd_lst (pe_lst (pd_acons (pa_cons (pd_rev (peOr (pe_revS (pd_var (pv 1))) (pe_revLK (K := K) rfl (pd_var (pv 1))))) (pd_acons (pa_cons (pd_sl (pe_slice (sl_UT (K := K) rfl) (pd_var (pv 1)) (pd_noP po_none) (pd_part (po_some (pd_var (pv 3)))))) (pd_acons (pa_cons (pd_op2 d_add (pe_op (op_addUT (K := K) rfl) (pd_var (pv 1)) (pd_var (pv 1)))) (pd_anil pa_nil))))))))))) (pd_callI (pc_try (W := _) (ok_law_take T) (hr.mono (by decide)) (by rfl) T.g_law_take T.f_law_take.kp T.b_law_take (takes_of rfl rfl rfl rfl) (pa_cons (pv 0) (pd_acons (pa_cons (pd_cI pe_int) (pd_anil pa_nil)))))) (fun _ _ => rfl))))))))))))))

theorem sc_law_right : FnScope ["_law_paths", "_law_path_here", "_law_derivation", "_law_kept", "_law_value_here", "_law_due", "_law_found"] ["_law_paths", "_law_path_here", "_law_derivation"] (defScope s_law_right) := ⟨rfl, rfl, rfl, by decide +kernel, rfl, by decide +kernel, by decide +kernel⟩
def nm_law_right : List Str := ["_law_paths", "_law_path_here", "_law_derivation", "_law_kept", "_law_value_here", "_law_due", "_law_found"]
theorem ok_law_right (T : Txt K mg A) : FnG P w K mg base (L2.CX P w) 6 A.a_law_right A.d_law_right ["_law_paths", "_law_path_here", "_law_derivation"] (spP K mg 3 m_law_right) := by
  refine fnX T.f_law_right sc_law_right (fun vs H Q E h => h.1) (fun cdv A_ outer s H vs Q E hr h => ?_)
  refine ⟨_, pssA (wx := fun cls d _ H => E cls d H) (b := b_law_right) (fun c => ?_), runP_go (k := 4) rfl h⟩
  exact (pd_seq (pss_cons (pd_set (ps_set (i := 3) sc_law_right.nd rfl (by first | exact Or.inl rfl | exact Or.inr rfl) (pd_cb d_repr (pe_callB (call_reprW (K := K) (mg := mg) rfl hr.gd hr.units) (by rfl) T.z_repr PyProof.Rows.boot_repr (pd_acons (pa_cons (pd_lst (pe_lst (pd_acons (pa_cons (pd_var (pv 0)) (pd_acons (pa_cons (pd_var (pv 2)) (pd_anil pa_nil))))))) (pd_anil pa_nil)))))))
      (pd_seq (pss_cons (pd_set (ps_set (i := 4) sc_law_right.nd rfl (by first | exact Or.inl rfl | exact Or.inr rfl) (pd_call (pc_try (W := _) (ok_law_value T) (hr.mono (by decide)) (by rfl) T.g_law_value T.f_law_value.kp T.b_law_value (takes_of rfl rfl rfl rfl) (pd_acons (pa_cons (pd_var (pv 0)) (pd_acons (pa_cons (pd_var (pv 2)) (pd_anil pa_nil)))))))))
      (pd_seq (pss_cons (pd_set (ps_set (i := 5) sc_law_right.nd rfl (by first | exact Or.inl rfl | exact Or.inr rfl) (pd_and (pe_andTK (K := K) rfl (pd_op2 d_notN (pe_cmpR op_notN (pd_var (pv 4)) (pd_cN pe_non) rfl)) (pe_one (pd_op2 d_eq (pe_cmpR (op_eqW (K := K) rfl hr.units) (pd_var (pv 4)) (pd_call (pc_try (W := _) (ok_law_reduced T) (hr.mono (by decide)) (by rfl) T.g_law_reduced T.f_law_reduced.kp T.b_law_reduced (takes_of rfl rfl rfl rfl) (pd_acons (pa_cons (pd_var (pv 1)) (pd_anil pa_nil))))) rfl)))))))
      (pd_seq (pss_cons (pd_set (ps_set (i := 6) sc_law_right.nd rfl (by first | exact Or.inl rfl | exact Or.inr rfl) (pd_call (pc_try (W := _) (ok_check_derivation T) (hr.mono (by decide)) (by rfl) T.g_check_derivation T.f_check_derivation.kp T.b_check_derivation (takes_of rfl rfl rfl rfl) (pd_acons (pa_cons (pd_var (pv 0)) (pd_acons (pa_cons (pd_var (pv 1)) (pd_acons (pa_cons (pd_var (pv 2)) (pd_anil pa_nil)))))))))))
      (pss_one (pd_ret (ps_ret (pd_and (pe_andTK (K := K) rfl (pd_op2 d_eq (pe_cmpR (op_eqW (K := K) rfl hr.units) (pd_cb d_repr (pe_callB (call_reprW (K := K) (mg := mg) rfl hr.gd hr.units) (by rfl) T.z_repr PyProof.Rows.boot_repr (pd_acons (pa_cons (pd_var (pv 6)) (pd_anil pa_nil))))) (pd_cb d_repr (pe_callB (call_reprW (K := K) (mg := mg) rfl hr.gd hr.units) (by rfl) T.z_repr PyProof.Rows.boot_repr (pd_acons (pa_cons (pd_var (pv 5)) (pd_anil pa_nil))))) rfl)) (pe_one (pd_op2 d_eq (pe_cmpR (op_eqW (K := K) rfl hr.units) (pd_cb d_repr (pe_callB (call_reprW (K := K) (mg := mg) rfl hr.gd hr.units) (by rfl) T.z_repr PyProof.Rows.boot_repr (pd_acons (pa_cons (pd_lst (pe_lst (pd_acons (pa_cons (pd_var (pv 0)) (pd_acons (pa_cons (pd_var (pv 2)) (pd_anil pa_nil))))))) (pd_anil pa_nil))))) (pd_var (pv 3)) rfl))))))))))))))))

theorem sc_law : FnScope ["_law_script", "_law_k", "_law_pool_here", "_law_paths", "_law_derivation", "_law_own", "_law_other", "_law_path_here", "_law_bent_here", "_law_thing", "_law_turn"] ["_law_script"] (defScope s_law) := ⟨rfl, rfl, rfl, by decide +kernel, rfl, by decide +kernel, by decide +kernel⟩
def nm_law : List Str := ["_law_script", "_law_k", "_law_pool_here", "_law_paths", "_law_derivation", "_law_own", "_law_other", "_law_path_here", "_law_bent_here", "_law_thing", "_law_turn"]
theorem ok_law (T : Txt K mg A) : FnG P w K mg base (L2.CX P w) 7 A.a_law A.d_law ["_law_script"] (spP K mg 1 m_law) := by
  refine fnX T.f_law sc_law (fun vs H Q E h => h.1) (fun cdv A_ outer s H vs Q E hr h => ?_)
  refine ⟨_, pssA (wx := fun cls d _ H => E cls d H) (b := b_law) (fun c => ?_), runP_go (k := 10) rfl h⟩
  exact (pd_seq (pss_cons (pd_ifs (ps_if (pd_tnot (pt_not (pd_tval (pt_val (pd_callF (pc_try (W := _) (ok_law_limits_right T) (hr.mono (by decide)) (by rfl) T.g_law_limits_right T.f_law_limits_right.kp T.b_law_limits_right (takes_of rfl rfl rfl rfl) (pa_cons (pd_call (pc_try (W := _) (ok_law_pool T) (hr.mono (by decide)) (by rfl) T.g_law_pool T.f_law_pool.kp T.b_law_pool (takes_of rfl rfl rfl rfl) (pd_acons (pa_cons (pd_var (pv 0)) (pd_acons (pa_cons (pd_cI pe_int) (pd_anil pa_nil))))))) pa_nil))))))) (pss_one (pd_ret (ps_ret (pd_cB pe_bl)))) (pd_nil pss_nil)))
      (pd_seq (pss_cons (pd_fo (ps_for (passes_of rfl) rfl (pd_rng1 (pi_range1 (by rfl) T.z_range (pd_acons (pa_cons (pd_cb d_max (pe_callB (call_maxUK (K := K) rfl rfl) (by rfl) T.z_max PyProof.Rows.boot_max (pd_acons (pa_cons (pd_cI pe_int) (pd_acons (pa_cons (pd_cb d_min (pe_callB (call_minUK (K := K) rfl rfl) (by rfl) T.z_min (by decide +kernel) (pd_acons (pa_cons (pd_cI pe_int) (pd_acons (pa_cons (pd_cb d_len (pe_callB (call_lenUK (K := K) rfl) (by rfl) T.z_len PySem.boot_len (pd_acons (pa_cons (pd_var (pv 0)) (pd_anil pa_nil))))) (pd_anil pa_nil))))))) (pd_anil pa_nil))))))) (pd_anil pa_nil))))) (pd_gname (pg_name (i := 1) sc_law.nd rfl (by first | exact Or.inl rfl | exact Or.inr rfl))) (pd_seq (pss_cons (pd_set (ps_set (i := 2) sc_law.nd rfl (by first | exact Or.inl rfl | exact Or.inr rfl) (pd_call (pc_try (W := _) (ok_law_pool T) (hr.mono (by decide)) (by rfl) T.g_law_pool T.f_law_pool.kp T.b_law_pool (takes_of rfl rfl rfl rfl) (pd_acons (pa_cons (pd_var (pv 0)) (pd_acons (pa_cons (pd_var (pv 1)) (pd_anil pa_nil)))))))))
      (pd_seq (pss_cons (pd_set (ps_set (i := 3) sc_law.nd rfl (by first | exact Or.inl rfl | exact Or.inr rfl) (pd_callI (pc_try (W := _) (ok_law_generators T) (hr.mono (by decide)) (by rfl) T.g_law_generators T.f_law_generators.kp T.b_law_generators (takes_of rfl rfl rfl rfl) (pa_cons (pv 2) (pd_acons (pa_cons (pd_cI pe_int) (pd_acons (pa_cons (pd_cI pe_int) (pd_acons (pa_cons (pd_op2 d_add (pe_op (op_addUT (K := K) rfl) (pd_cI pe_int) (pd_callI (pc_try (W := _) (ok_law_take T) (hr.mono (by decide)) (by rfl) T.g_law_take T.f_law_take.kp T.b_law_take (takes_of rfl rfl rfl rfl) (pa_cons (pv 2) (pd_acons (pa_cons (pd_cI pe_int) (pd_anil pa_nil)))))))) (pd_anil pa_nil))))))))))))
      (pd_seq (pss_cons (pd_set (ps_set (i := 4) sc_law.nd rfl (by first | exact Or.inl rfl | exact Or.inr rfl) (pd_callI (pc_try (W := _) (ok_law_drawn T) (hr.mono (by decide)) (by rfl) T.g_law_drawn T.f_law_drawn.kp T.b_law_drawn (takes_of rfl rfl rfl rfl) (pa_cons (pv 2) (pd_acons (pa_cons (pd_cb d_len (pe_callB (call_lenUK (K := K) rfl) (by rfl) T.z_len PySem.boot_len (pd_acons (pa_cons (pd_var (pv 3)) (pd_anil pa_nil))))) (pd_anil pa_nil))))))))
      (pd_seq (pss_cons (pd_set (ps_set (i := 5) sc_law.nd rfl (by first | exact Or.inl rfl | exact Or.inr rfl) (pd_or (pe_orTK (K := K) rfl (pd_call (pc_try (W := _) (ok_law_value T) (hr.mono (by decide)) (by rfl) T.g_law_value T.f_law_value.kp T.b_law_value (takes_of rfl rfl rfl rfl) (pd_acons (pa_cons (pd_var (pv 3)) (pd_acons (pa_cons (pd_var (pv 4)) (pd_anil pa_nil))))))) (pe_one (pd_cS pe_str))))))
      (pd_seq (pss_cons (pd_set (ps_set (i := 6) sc_law.nd rfl (by first | exact Or.inl rfl | exact Or.inr rfl) (pd_callI (pc_try (W := _) (ok_law_path T) (hr.mono (by decide)) (by rfl) T.g_law_path T.f_law_path.kp T.b_law_path (takes_of rfl rfl rfl rfl) (pa_cons (pv 2) (pd_acons (pa_cons (pd_cI pe_int) (pd_acons (pa_cons (pd_cI pe_int) (pd_anil pa_nil))))))))))
      (pd_seq (pss_cons (pd_fo (ps_for (passes_of rfl) rfl (pd_iof (pi_anyK (K := K) rfl (pd_ite (pe_ifExp (pd_tcmp d_lt (pt_cmpR (op_ltUK (K := K) rfl hr.units) (pd_cb d_len (pe_callB (call_lenUK (K := K) rfl) (by rfl) T.z_len PySem.boot_len (pd_acons (pa_cons (pd_var (pv 5)) (pd_anil pa_nil))))) (pd_cI pe_int) rfl)) (pd_lst (pe_lst (pd_acons (pa_cons (pd_var (pv 5)) (pd_acons (pa_cons (pd_op2 d_add (pe_op (op_addUT (K := K) rfl) (pd_op2 d_add (pe_op (op_addUT (K := K) rfl) (pd_sl (pe_slice (sl_UT (K := K) rfl) (pd_var (pv 5)) (pd_noP po_none) (pd_part (po_some (pd_cI pe_int))))) (pd_cS pe_str))) (pd_sl (pe_slice (sl_UT (K := K) rfl) (pd_var (pv 5)) (pd_part (po_some (pd_cI pe_int))) (pd_noP po_none))))) (pd_acons (pa_cons (pd_var (pv 6)) (pd_acons (pa_cons (pd_op2 d_add (pe_op (op_addUT (K := K) rfl) (pd_var (pv 5)) (pd_cS pe_str))) (pd_acons (pa_cons (pd_cS pe_str) (pd_anil pa_nil))))))))))))) (pd_lst (pe_lst (pd_acons (pa_cons (pd_var (pv 6)) (pd_anil pa_nil))))))))) (pd_gname (pg_name (i := 7) sc_law.nd rfl (by first | exact Or.inl rfl | exact Or.inr rfl))) (pd_seq (pss_cons (pd_setLc (ps_setLc (i := 8) (own := [("_law_turn", 10)]) rfl sc_law.nd rfl rfl (sw_true rfl rfl rfl (by decide +kernel)) (pd_rng1 (pi_range1 (by rfl) T.z_range (pd_acons (pa_cons (pd_cI pe_int) (pd_anil pa_nil))))) (blkOk_by (N := nm_law) (sc := defScope s_law) (by decide +kernel)) (fun _ _ _ _ _ => (pgA fun c => (pd_gname (pg_name (i := 10) sc_law.nd rfl (by first | exact Or.inl rfl | exact Or.inr rfl))))) (fun _ _ _ _ _ => ptsN) (fun _ _ _ _ _ => (peA fun c => (pd_callI (pc_try (W := _) (ok_law_bent T) (hr.mono (by decide)) (by rfl) T.g_law_bent T.f_law_bent.kp T.b_law_bent takesF (pa_cons (pv 2) (pd_acons (pa_cons (pd_var (pv 4)) (pd_acons (pa_cons (pd_cb d_len (pe_callB (call_lenUK (K := K) rfl) (by rfl) T.z_len PySem.boot_len (pd_acons (pa_cons (pd_var (pv 3)) (pd_anil pa_nil))))) (pd_anil pa_nil))))))))))))
      (pss_one (pd_fo (ps_for (passes_of rfl) rfl (pd_iof (pi_anyK (K := K) rfl (pd_op2 d_add (pe_op (op_addUT (K := K) rfl) (pd_lst (pe_lst (pd_acons (pa_cons (pd_var (pv 4)) (pd_anil pa_nil))))) (pd_var (pv 8)))))) (pd_gname (pg_name (i := 9) sc_law.nd rfl (by first | exact Or.inl rfl | exact Or.inr rfl))) (pss_one (pd_ifs (ps_if (pd_tnot (pt_not (pd_tval (pt_val (pd_call (pc_try (W := _) (ok_law_right T) (hr.mono (by decide)) (by rfl) T.g_law_right T.f_law_right.kp T.b_law_right (takes_of rfl rfl rfl rfl) (pd_acons (pa_cons (pd_var (pv 3)) (pd_acons (pa_cons (pd_var (pv 7)) (pd_acons (pa_cons (pd_var (pv 9)) (pd_anil pa_nil))))))))))))) (pss_one (pd_ret (ps_ret (pd_cB pe_bl)))) (pd_nil pss_nil)))))))))))
      (pss_one (pd_fo (ps_for (passes_of rfl) rfl (pd_iof (pi_anyK (K := K) rfl (pd_lst (pe_lst (pd_acons (pa_cons (pd_cN pe_non) (pd_acons (pa_cons (pd_cb d_tuple (pe_callTy call_tuple_of (by rfl) T.z_tuple (by decide +kernel) (pd_acons (pa_cons (pd_var (pv 4)) (pd_anil pa_nil))))) (pd_acons (pa_cons (pd_cS pe_str) (pd_acons (pa_cons (pd_cS pe_str) (pd_acons (pa_cons (pd_dnewK pe_dnewK) (pd_acons (pa_cons (pd_cI pe_int) (pd_acons (pa_cons (pd_cB pe_bl) (pd_acons (pa_cons (pd_tup (pe_tup (pd_acons (pa_cons (pd_var (pv 4)) (pd_anil pa_nil))))) (pd_acons (pa_cons (pd_lst (pe_lst (pd_acons (pa_cons (pd_var (pv 4)) (pd_anil pa_nil))))) (pd_anil pa_nil))))))))))))))))))))))) (pd_gname (pg_name (i := 9) sc_law.nd rfl (by first | exact Or.inl rfl | exact Or.inr rfl))) (pss_one (pd_ifs (ps_if (pd_tcmp d_notBl (pt_cmpR op_notBl (pd_call (pc_try (W := _) (ok_check_derivation T) (hr.mono (by decide)) (by rfl) T.g_check_derivation T.f_check_derivation.kp T.b_check_derivation (takes_of rfl rfl rfl rfl) (pd_acons (pa_cons (pd_cb d_tuple (pe_callTy call_tuple_of (by rfl) T.z_tuple (by decide +kernel) (pd_acons (pa_cons (pd_var (pv 3)) (pd_anil pa_nil))))) (pd_acons (pa_cons (pd_sl (pe_slice (sl_UT (K := K) rfl) (pd_var (pv 5)) (pd_noP po_none) (pd_part (po_some (pd_cI pe_int))))) (pd_acons (pa_cons (pd_var (pv 9)) (pd_anil pa_nil))))))))) (pd_cB pe_bl) rfl)) (pss_one (pd_ret (ps_ret (pd_cB pe_bl)))) (pd_nil pss_nil)))))))))))))))))))))
      (pss_one (pd_ret (ps_ret (pd_cB pe_bl))))))))
def sp_law (K : PySem.W.Frag) : Sp := fun vs H Q _ => ∃ (a : Addr) (ns : List Int), vs = [.ref a] ∧ SqL K H a (ns.map V.int) ∧ ns.length ≤ 63 ∧ ∀ H', Q (.bl true) H'
theorem ok_law2 (T : Txt K mg A) : FnG P w K mg base (L2.CX P w) 7 A.a_law A.d_law ["_law_script"] (sp_law K) :=
  (ok_law T).imp fun vs H Q E h => by
    obtain ⟨a, ns, rfl, hs, hl, q⟩ := h
    refine ⟨rfl, H, [.scr (ns.map D.int)], Same.refl H, .cons (.scr hs (rd_ints ns)) .nil, ?_⟩
    rw [law_true ns hl]
    exact fun x F' H' a r => by rw [Rd.inv_bl r]; exact q H'

end
theorem all_mk {l : PySem.W.OpenLaw} {w : World} {K : PySem.W.Frag} {h : Heap} {mg : Str → Option Value} {fa : Addr} (X : K.In h) (G : h.Ns mainGlobals mg) (hfa : mg "law" = some (.ref fa))
    {f_InvalidPaths___init__ f_is_path f_require_paths f_LimitExceeded___init__ f_reduce_all f_reduced_generator f_reduced_generators f_is_integer f_is_line f_inverted f_line_values f_derives f_InvalidPath___init__ f_require_path f_reduced f_check_derivation f_law_take f_law_limits_right f_law_pool f_law_path f_law_generators f_law_drawn f_law_is_number f_law_is_line f_law_inverse_step f_law_reduced f_law_inverse f_law_value f_law_odd f_law_bent f_law_right f_law : Addr}
    {od_InvalidPaths___init__ an_InvalidPaths___init__ od_is_path an_is_path od_require_paths an_require_paths od_LimitExceeded___init__ an_LimitExceeded___init__ od_reduce_all an_reduce_all od_reduced_generator an_reduced_generator od_reduced_generators an_reduced_generators od_is_integer an_is_integer od_is_line an_is_line od_inverted an_inverted od_line_values an_line_values od_derives an_derives od_InvalidPath___init__ an_InvalidPath___init__ od_require_path an_require_path od_reduced an_reduced od_check_derivation an_check_derivation od_law_take an_law_take od_law_limits_right an_law_limits_right od_law_pool an_law_pool od_law_path an_law_path od_law_generators an_law_generators od_law_drawn an_law_drawn od_law_is_number an_law_is_number od_law_is_line an_law_is_line od_law_inverse_step an_law_inverse_step od_law_reduced an_law_reduced od_law_inverse an_law_inverse od_law_value an_law_value od_law_odd an_law_odd od_law_bent an_law_bent od_law_right an_law_right od_law an_law : Option Addr}
    {sl_InvalidPaths___init__ sl_is_path sl_require_paths sl_LimitExceeded___init__ sl_reduce_all sl_reduced_generator sl_reduced_generators sl_is_integer sl_is_line sl_inverted sl_line_values sl_derives sl_InvalidPath___init__ sl_require_path sl_reduced sl_check_derivation sl_law_take sl_law_limits_right sl_law_pool sl_law_path sl_law_generators sl_law_drawn sl_law_is_number sl_law_is_line sl_law_inverse_step sl_law_reduced sl_law_inverse sl_law_value sl_law_odd sl_law_bent sl_law_right sl_law : Array (Option Value)}
    {oc_InvalidPaths___init__ kV_InvalidPaths___init__ dc_InvalidPaths___init__ pm_InvalidPaths___init__ cd_InvalidPaths___init__ ct_InvalidPaths___init__ oc_is_path kV_is_path dc_is_path pm_is_path cd_is_path ct_is_path oc_require_paths kV_require_paths dc_require_paths pm_require_paths cd_require_paths ct_require_paths oc_LimitExceeded___init__ kV_LimitExceeded___init__ dc_LimitExceeded___init__ pm_LimitExceeded___init__ cd_LimitExceeded___init__ ct_LimitExceeded___init__ oc_reduce_all kV_reduce_all dc_reduce_all pm_reduce_all cd_reduce_all ct_reduce_all oc_reduced_generator kV_reduced_generator dc_reduced_generator pm_reduced_generator cd_reduced_generator ct_reduced_generator oc_reduced_generators kV_reduced_generators dc_reduced_generators pm_reduced_generators cd_reduced_generators ct_reduced_generators oc_is_integer kV_is_integer dc_is_integer pm_is_integer cd_is_integer ct_is_integer oc_is_line kV_is_line dc_is_line pm_is_line cd_is_line ct_is_line oc_inverted kV_inverted dc_inverted pm_inverted cd_inverted ct_inverted oc_line_values kV_line_values dc_line_values pm_line_values cd_line_values ct_line_values oc_derives kV_derives dc_derives pm_derives cd_derives ct_derives oc_InvalidPath___init__ kV_InvalidPath___init__ dc_InvalidPath___init__ pm_InvalidPath___init__ cd_InvalidPath___init__ ct_InvalidPath___init__ oc_require_path kV_require_path dc_require_path pm_require_path cd_require_path ct_require_path oc_reduced kV_reduced dc_reduced pm_reduced cd_reduced ct_reduced oc_check_derivation kV_check_derivation dc_check_derivation pm_check_derivation cd_check_derivation ct_check_derivation oc_law_take kV_law_take dc_law_take pm_law_take cd_law_take ct_law_take oc_law_limits_right kV_law_limits_right dc_law_limits_right pm_law_limits_right cd_law_limits_right ct_law_limits_right oc_law_pool kV_law_pool dc_law_pool pm_law_pool cd_law_pool ct_law_pool oc_law_path kV_law_path dc_law_path pm_law_path cd_law_path ct_law_path oc_law_generators kV_law_generators dc_law_generators pm_law_generators cd_law_generators ct_law_generators oc_law_drawn kV_law_drawn dc_law_drawn pm_law_drawn cd_law_drawn ct_law_drawn oc_law_is_number kV_law_is_number dc_law_is_number pm_law_is_number cd_law_is_number ct_law_is_number oc_law_is_line kV_law_is_line dc_law_is_line pm_law_is_line cd_law_is_line ct_law_is_line oc_law_inverse_step kV_law_inverse_step dc_law_inverse_step pm_law_inverse_step cd_law_inverse_step ct_law_inverse_step oc_law_reduced kV_law_reduced dc_law_reduced pm_law_reduced cd_law_reduced ct_law_reduced oc_law_inverse kV_law_inverse dc_law_inverse pm_law_inverse cd_law_inverse ct_law_inverse oc_law_value kV_law_value dc_law_value pm_law_value cd_law_value ct_law_value oc_law_odd kV_law_odd dc_law_odd pm_law_odd cd_law_odd ct_law_odd oc_law_bent kV_law_bent dc_law_bent pm_law_bent cd_law_bent ct_law_bent oc_law_right kV_law_right dc_law_right pm_law_right cd_law_right ct_law_right oc_law kV_law dc_law pm_law cd_law ct_law : Value}
    {e_InvalidPath e_InvalidPaths e_LimitExceeded e_PathError : Addr}
    {t_MAX_GENERATORS : Tok}
    {t_MAX_GENERATOR_STEPS : Tok}
    {t_MAX_LINES : Tok}
    {t_MAX_STEPS : Tok}
    {t_MAX_VALUE_STEPS : Tok}
    {t_STEPS : Tok}
    (a_is_path : PySem.W.nsIn K mainGlobals "is_path" = some (some (.ref f_is_path)))
    (a_require_paths : PySem.W.nsIn K mainGlobals "require_paths" = some (some (.ref f_require_paths)))
    (a_reduce_all : PySem.W.nsIn K mainGlobals "reduce_all" = some (some (.ref f_reduce_all)))
    (a_reduced_generator : PySem.W.nsIn K mainGlobals "reduced_generator" = some (some (.ref f_reduced_generator)))
    (a_reduced_generators : PySem.W.nsIn K mainGlobals "reduced_generators" = some (some (.ref f_reduced_generators)))
    (a_is_integer : PySem.W.nsIn K mainGlobals "is_integer" = some (some (.ref f_is_integer)))
    (a_is_line : PySem.W.nsIn K mainGlobals "is_line" = some (some (.ref f_is_line)))
    (a_inverted : PySem.W.nsIn K mainGlobals "inverted" = some (some (.ref f_inverted)))
    (a_line_values : PySem.W.nsIn K mainGlobals "line_values" = some (some (.ref f_line_values)))
    (a_derives : PySem.W.nsIn K mainGlobals "derives" = some (some (.ref f_derives)))
    (a_require_path : PySem.W.nsIn K mainGlobals "require_path" = some (some (.ref f_require_path)))
    (a_reduced : PySem.W.nsIn K mainGlobals "reduced" = some (some (.ref f_reduced)))
    (a_check_derivation : PySem.W.nsIn K mainGlobals "check_derivation" = some (some (.ref f_check_derivation)))
    (a_law_take : PySem.W.nsIn K mainGlobals "_law_take" = some (some (.ref f_law_take)))
    (a_law_limits_right : PySem.W.nsIn K mainGlobals "_law_limits_right" = some (some (.ref f_law_limits_right)))
    (a_law_pool : PySem.W.nsIn K mainGlobals "_law_pool" = some (some (.ref f_law_pool)))
    (a_law_path : PySem.W.nsIn K mainGlobals "_law_path" = some (some (.ref f_law_path)))
    (a_law_generators : PySem.W.nsIn K mainGlobals "_law_generators" = some (some (.ref f_law_generators)))
    (a_law_drawn : PySem.W.nsIn K mainGlobals "_law_drawn" = some (some (.ref f_law_drawn)))
    (a_law_is_number : PySem.W.nsIn K mainGlobals "_law_is_number" = some (some (.ref f_law_is_number)))
    (a_law_is_line : PySem.W.nsIn K mainGlobals "_law_is_line" = some (some (.ref f_law_is_line)))
    (a_law_inverse_step : PySem.W.nsIn K mainGlobals "_law_inverse_step" = some (some (.ref f_law_inverse_step)))
    (a_law_reduced : PySem.W.nsIn K mainGlobals "_law_reduced" = some (some (.ref f_law_reduced)))
    (a_law_inverse : PySem.W.nsIn K mainGlobals "_law_inverse" = some (some (.ref f_law_inverse)))
    (a_law_value : PySem.W.nsIn K mainGlobals "_law_value" = some (some (.ref f_law_value)))
    (a_law_odd : PySem.W.nsIn K mainGlobals "_law_odd" = some (some (.ref f_law_odd)))
    (a_law_bent : PySem.W.nsIn K mainGlobals "_law_bent" = some (some (.ref f_law_bent)))
    (a_law_right : PySem.W.nsIn K mainGlobals "_law_right" = some (some (.ref f_law_right)))
    (a_law : PySem.W.nsIn K mainGlobals "law" = some (some (.ref f_law)))
    (ac_InvalidPath : PySem.W.nsIn K mainGlobals "InvalidPath" = some (some (.ref e_InvalidPath)))
    (ac_InvalidPaths : PySem.W.nsIn K mainGlobals "InvalidPaths" = some (some (.ref e_InvalidPaths)))
    (ac_LimitExceeded : PySem.W.nsIn K mainGlobals "LimitExceeded" = some (some (.ref e_LimitExceeded)))
    (ac_PathError : PySem.W.nsIn K mainGlobals "PathError" = some (some (.ref e_PathError)))
    (i_InvalidPath : PySem.W.findIn K (.ref e_InvalidPath) "__init__" = some (some (.ref f_InvalidPath___init__)))
    (i_InvalidPaths : PySem.W.findIn K (.ref e_InvalidPaths) "__init__" = some (some (.ref f_InvalidPaths___init__)))
    (i_LimitExceeded : PySem.W.findIn K (.ref e_LimitExceeded) "__init__" = some (some (.ref f_LimitExceeded___init__)))
    (l_InvalidPaths___init__ : K.lookup f_InvalidPaths___init__ = some ⟨oc_InvalidPaths___init__, od_InvalidPaths___init__, .func (PySem.W.fnOf "__init__" "InvalidPaths.__init__" (defArgs s_InvalidPaths___init__) (defBody s_InvalidPaths___init__) (defScope s_InvalidPaths___init__) .none kV_InvalidPaths___init__ dc_InvalidPaths___init__ pm_InvalidPaths___init__ an_InvalidPaths___init__ cd_InvalidPaths___init__ ct_InvalidPaths___init__), sl_InvalidPaths___init__⟩)
    (c_InvalidPaths___init__ : PySem.W.codeIn K cd_InvalidPaths___init__ "InvalidPaths.__init__" = true)
    (k_InvalidPaths___init__ : PySem.W.keepIn K (.ref f_InvalidPaths___init__) = true)
    (l_is_path : K.lookup f_is_path = some ⟨oc_is_path, od_is_path, .func (PySem.W.fnOf "is_path" "is_path" (defArgs s_is_path) (defBody s_is_path) (defScope s_is_path) .none kV_is_path dc_is_path pm_is_path an_is_path cd_is_path ct_is_path), sl_is_path⟩)
    (c_is_path : PySem.W.codeIn K cd_is_path "is_path" = true)
    (k_is_path : PySem.W.keepIn K (.ref f_is_path) = true)
    (l_require_paths : K.lookup f_require_paths = some ⟨oc_require_paths, od_require_paths, .func (PySem.W.fnOf "require_paths" "require_paths" (defArgs s_require_paths) (defBody s_require_paths) (defScope s_require_paths) .none kV_require_paths dc_require_paths pm_require_paths an_require_paths cd_require_paths ct_require_paths), sl_require_paths⟩)
    (c_require_paths : PySem.W.codeIn K cd_require_paths "require_paths" = true)
    (k_require_paths : PySem.W.keepIn K (.ref f_require_paths) = true)
    (l_LimitExceeded___init__ : K.lookup f_LimitExceeded___init__ = some ⟨oc_LimitExceeded___init__, od_LimitExceeded___init__, .func (PySem.W.fnOf "__init__" "LimitExceeded.__init__" (defArgs s_LimitExceeded___init__) (defBody s_LimitExceeded___init__) (defScope s_LimitExceeded___init__) .none kV_LimitExceeded___init__ dc_LimitExceeded___init__ pm_LimitExceeded___init__ an_LimitExceeded___init__ cd_LimitExceeded___init__ ct_LimitExceeded___init__), sl_LimitExceeded___init__⟩)
    (c_LimitExceeded___init__ : PySem.W.codeIn K cd_LimitExceeded___init__ "LimitExceeded.__init__" = true)
    (k_LimitExceeded___init__ : PySem.W.keepIn K (.ref f_LimitExceeded___init__) = true)
    (l_reduce_all : K.lookup f_reduce_all = some ⟨oc_reduce_all, od_reduce_all, .func (PySem.W.fnOf "reduce_all" "reduce_all" (defArgs s_reduce_all) (defBody s_reduce_all) (defScope s_reduce_all) .none kV_reduce_all dc_reduce_all pm_reduce_all an_reduce_all cd_reduce_all ct_reduce_all), sl_reduce_all⟩)
    (c_reduce_all : PySem.W.codeIn K cd_reduce_all "reduce_all" = true)
    (k_reduce_all : PySem.W.keepIn K (.ref f_reduce_all) = true)
    (l_reduced_generator : K.lookup f_reduced_generator = some ⟨oc_reduced_generator, od_reduced_generator, .func (PySem.W.fnOf "reduced_generator" "reduced_generator" (defArgs s_reduced_generator) (defBody s_reduced_generator) (defScope s_reduced_generator) .none kV_reduced_generator dc_reduced_generator pm_reduced_generator an_reduced_generator cd_reduced_generator ct_reduced_generator), sl_reduced_generator⟩)
    (c_reduced_generator : PySem.W.codeIn K cd_reduced_generator "reduced_generator" = true)
    (k_reduced_generator : PySem.W.keepIn K (.ref f_reduced_generator) = true)
    (l_reduced_generators : K.lookup f_reduced_generators = some ⟨oc_reduced_generators, od_reduced_generators, .func (PySem.W.fnOf "reduced_generators" "reduced_generators" (defArgs s_reduced_generators) (defBody s_reduced_generators) (defScope s_reduced_generators) .none kV_reduced_generators dc_reduced_generators pm_reduced_generators an_reduced_generators cd_reduced_generators ct_reduced_generators), sl_reduced_generators⟩)
    (c_reduced_generators : PySem.W.codeIn K cd_reduced_generators "reduced_generators" = true)
    (k_reduced_generators : PySem.W.keepIn K (.ref f_reduced_generators) = true)
    (l_is_integer : K.lookup f_is_integer = some ⟨oc_is_integer, od_is_integer, .func (PySem.W.fnOf "is_integer" "is_integer" (defArgs s_is_integer) (defBody s_is_integer) (defScope s_is_integer) .none kV_is_integer dc_is_integer pm_is_integer an_is_integer cd_is_integer ct_is_integer), sl_is_integer⟩)
    (c_is_integer : PySem.W.codeIn K cd_is_integer "is_integer" = true)
    (k_is_integer : PySem.W.keepIn K (.ref f_is_integer) = true)
    (l_is_line : K.lookup f_is_line = some ⟨oc_is_line, od_is_line, .func (PySem.W.fnOf "is_line" "is_line" (defArgs s_is_line) (defBody s_is_line) (defScope s_is_line) .none kV_is_line dc_is_line pm_is_line an_is_line cd_is_line ct_is_line), sl_is_line⟩)
    (c_is_line : PySem.W.codeIn K cd_is_line "is_line" = true)
    (k_is_line : PySem.W.keepIn K (.ref f_is_line) = true)
    (l_inverted : K.lookup f_inverted = some ⟨oc_inverted, od_inverted, .func (PySem.W.fnOf "inverted" "inverted" (defArgs s_inverted) (defBody s_inverted) (defScope s_inverted) .none kV_inverted dc_inverted pm_inverted an_inverted cd_inverted ct_inverted), sl_inverted⟩)
    (c_inverted : PySem.W.codeIn K cd_inverted "inverted" = true)
    (k_inverted : PySem.W.keepIn K (.ref f_inverted) = true)
    (l_line_values : K.lookup f_line_values = some ⟨oc_line_values, od_line_values, .func (PySem.W.fnOf "line_values" "line_values" (defArgs s_line_values) (defBody s_line_values) (defScope s_line_values) .none kV_line_values dc_line_values pm_line_values an_line_values cd_line_values ct_line_values), sl_line_values⟩)
    (c_line_values : PySem.W.codeIn K cd_line_values "line_values" = true)
    (k_line_values : PySem.W.keepIn K (.ref f_line_values) = true)
    (l_derives : K.lookup f_derives = some ⟨oc_derives, od_derives, .func (PySem.W.fnOf "derives" "derives" (defArgs s_derives) (defBody s_derives) (defScope s_derives) .none kV_derives dc_derives pm_derives an_derives cd_derives ct_derives), sl_derives⟩)
    (c_derives : PySem.W.codeIn K cd_derives "derives" = true)
    (k_derives : PySem.W.keepIn K (.ref f_derives) = true)
    (l_InvalidPath___init__ : K.lookup f_InvalidPath___init__ = some ⟨oc_InvalidPath___init__, od_InvalidPath___init__, .func (PySem.W.fnOf "__init__" "InvalidPath.__init__" (defArgs s_InvalidPath___init__) (defBody s_InvalidPath___init__) (defScope s_InvalidPath___init__) .none kV_InvalidPath___init__ dc_InvalidPath___init__ pm_InvalidPath___init__ an_InvalidPath___init__ cd_InvalidPath___init__ ct_InvalidPath___init__), sl_InvalidPath___init__⟩)
    (c_InvalidPath___init__ : PySem.W.codeIn K cd_InvalidPath___init__ "InvalidPath.__init__" = true)
    (k_InvalidPath___init__ : PySem.W.keepIn K (.ref f_InvalidPath___init__) = true)
    (l_require_path : K.lookup f_require_path = some ⟨oc_require_path, od_require_path, .func (PySem.W.fnOf "require_path" "require_path" (defArgs s_require_path) (defBody s_require_path) (defScope s_require_path) .none kV_require_path dc_require_path pm_require_path an_require_path cd_require_path ct_require_path), sl_require_path⟩)
    (c_require_path : PySem.W.codeIn K cd_require_path "require_path" = true)
    (k_require_path : PySem.W.keepIn K (.ref f_require_path) = true)
    (l_reduced : K.lookup f_reduced = some ⟨oc_reduced, od_reduced, .func (PySem.W.fnOf "reduced" "reduced" (defArgs s_reduced) (defBody s_reduced) (defScope s_reduced) .none kV_reduced dc_reduced pm_reduced an_reduced cd_reduced ct_reduced), sl_reduced⟩)
    (c_reduced : PySem.W.codeIn K cd_reduced "reduced" = true)
    (k_reduced : PySem.W.keepIn K (.ref f_reduced) = true)
    (l_check_derivation : K.lookup f_check_derivation = some ⟨oc_check_derivation, od_check_derivation, .func (PySem.W.fnOf "check_derivation" "check_derivation" (defArgs s_check_derivation) (defBody s_check_derivation) (defScope s_check_derivation) .none kV_check_derivation dc_check_derivation pm_check_derivation an_check_derivation cd_check_derivation ct_check_derivation), sl_check_derivation⟩)
    (c_check_derivation : PySem.W.codeIn K cd_check_derivation "check_derivation" = true)
    (k_check_derivation : PySem.W.keepIn K (.ref f_check_derivation) = true)
    (l_law_take : K.lookup f_law_take = some ⟨oc_law_take, od_law_take, .func (PySem.W.fnOf "_law_take" "_law_take" (defArgs s_law_take) (defBody s_law_take) (defScope s_law_take) .none kV_law_take dc_law_take pm_law_take an_law_take cd_law_take ct_law_take), sl_law_take⟩)
    (c_law_take : PySem.W.codeIn K cd_law_take "_law_take" = true)
    (k_law_take : PySem.W.keepIn K (.ref f_law_take) = true)
    (l_law_limits_right : K.lookup f_law_limits_right = some ⟨oc_law_limits_right, od_law_limits_right, .func (PySem.W.fnOf "_law_limits_right" "_law_limits_right" (defArgs s_law_limits_right) (defBody s_law_limits_right) (defScope s_law_limits_right) .none kV_law_limits_right dc_law_limits_right pm_law_limits_right an_law_limits_right cd_law_limits_right ct_law_limits_right), sl_law_limits_right⟩)
    (c_law_limits_right : PySem.W.codeIn K cd_law_limits_right "_law_limits_right" = true)
    (k_law_limits_right : PySem.W.keepIn K (.ref f_law_limits_right) = true)
    (l_law_pool : K.lookup f_law_pool = some ⟨oc_law_pool, od_law_pool, .func (PySem.W.fnOf "_law_pool" "_law_pool" (defArgs s_law_pool) (defBody s_law_pool) (defScope s_law_pool) .none kV_law_pool dc_law_pool pm_law_pool an_law_pool cd_law_pool ct_law_pool), sl_law_pool⟩)
    (c_law_pool : PySem.W.codeIn K cd_law_pool "_law_pool" = true)
    (k_law_pool : PySem.W.keepIn K (.ref f_law_pool) = true)
    (l_law_path : K.lookup f_law_path = some ⟨oc_law_path, od_law_path, .func (PySem.W.fnOf "_law_path" "_law_path" (defArgs s_law_path) (defBody s_law_path) (defScope s_law_path) .none kV_law_path dc_law_path pm_law_path an_law_path cd_law_path ct_law_path), sl_law_path⟩)
    (c_law_path : PySem.W.codeIn K cd_law_path "_law_path" = true)
    (k_law_path : PySem.W.keepIn K (.ref f_law_path) = true)
    (l_law_generators : K.lookup f_law_generators = some ⟨oc_law_generators, od_law_generators, .func (PySem.W.fnOf "_law_generators" "_law_generators" (defArgs s_law_generators) (defBody s_law_generators) (defScope s_law_generators) .none kV_law_generators dc_law_generators pm_law_generators an_law_generators cd_law_generators ct_law_generators), sl_law_generators⟩)
    (c_law_generators : PySem.W.codeIn K cd_law_generators "_law_generators" = true)
    (k_law_generators : PySem.W.keepIn K (.ref f_law_generators) = true)
    (l_law_drawn : K.lookup f_law_drawn = some ⟨oc_law_drawn, od_law_drawn, .func (PySem.W.fnOf "_law_drawn" "_law_drawn" (defArgs s_law_drawn) (defBody s_law_drawn) (defScope s_law_drawn) .none kV_law_drawn dc_law_drawn pm_law_drawn an_law_drawn cd_law_drawn ct_law_drawn), sl_law_drawn⟩)
    (c_law_drawn : PySem.W.codeIn K cd_law_drawn "_law_drawn" = true)
    (k_law_drawn : PySem.W.keepIn K (.ref f_law_drawn) = true)
    (l_law_is_number : K.lookup f_law_is_number = some ⟨oc_law_is_number, od_law_is_number, .func (PySem.W.fnOf "_law_is_number" "_law_is_number" (defArgs s_law_is_number) (defBody s_law_is_number) (defScope s_law_is_number) .none kV_law_is_number dc_law_is_number pm_law_is_number an_law_is_number cd_law_is_number ct_law_is_number), sl_law_is_number⟩)
    (c_law_is_number : PySem.W.codeIn K cd_law_is_number "_law_is_number" = true)
    (k_law_is_number : PySem.W.keepIn K (.ref f_law_is_number) = true)
    (l_law_is_line : K.lookup f_law_is_line = some ⟨oc_law_is_line, od_law_is_line, .func (PySem.W.fnOf "_law_is_line" "_law_is_line" (defArgs s_law_is_line) (defBody s_law_is_line) (defScope s_law_is_line) .none kV_law_is_line dc_law_is_line pm_law_is_line an_law_is_line cd_law_is_line ct_law_is_line), sl_law_is_line⟩)
    (c_law_is_line : PySem.W.codeIn K cd_law_is_line "_law_is_line" = true)
    (k_law_is_line : PySem.W.keepIn K (.ref f_law_is_line) = true)
    (l_law_inverse_step : K.lookup f_law_inverse_step = some ⟨oc_law_inverse_step, od_law_inverse_step, .func (PySem.W.fnOf "_law_inverse_step" "_law_inverse_step" (defArgs s_law_inverse_step) (defBody s_law_inverse_step) (defScope s_law_inverse_step) .none kV_law_inverse_step dc_law_inverse_step pm_law_inverse_step an_law_inverse_step cd_law_inverse_step ct_law_inverse_step), sl_law_inverse_step⟩)
    (c_law_inverse_step : PySem.W.codeIn K cd_law_inverse_step "_law_inverse_step" = true)
    (k_law_inverse_step : PySem.W.keepIn K (.ref f_law_inverse_step) = true)
    (l_law_reduced : K.lookup f_law_reduced = some ⟨oc_law_reduced, od_law_reduced, .func (PySem.W.fnOf "_law_reduced" "_law_reduced" (defArgs s_law_reduced) (defBody s_law_reduced) (defScope s_law_reduced) .none kV_law_reduced dc_law_reduced pm_law_reduced an_law_reduced cd_law_reduced ct_law_reduced), sl_law_reduced⟩)
    (c_law_reduced : PySem.W.codeIn K cd_law_reduced "_law_reduced" = true)
    (k_law_reduced : PySem.W.keepIn K (.ref f_law_reduced) = true)
    (l_law_inverse : K.lookup f_law_inverse = some ⟨oc_law_inverse, od_law_inverse, .func (PySem.W.fnOf "_law_inverse" "_law_inverse" (defArgs s_law_inverse) (defBody s_law_inverse) (defScope s_law_inverse) .none kV_law_inverse dc_law_inverse pm_law_inverse an_law_inverse cd_law_inverse ct_law_inverse), sl_law_inverse⟩)
    (c_law_inverse : PySem.W.codeIn K cd_law_inverse "_law_inverse" = true)
    (k_law_inverse : PySem.W.keepIn K (.ref f_law_inverse) = true)
    (l_law_value : K.lookup f_law_value = some ⟨oc_law_value, od_law_value, .func (PySem.W.fnOf "_law_value" "_law_value" (defArgs s_law_value) (defBody s_law_value) (defScope s_law_value) .none kV_law_value dc_law_value pm_law_value an_law_value cd_law_value ct_law_value), sl_law_value⟩)
    (c_law_value : PySem.W.codeIn K cd_law_value "_law_value" = true)
    (k_law_value : PySem.W.keepIn K (.ref f_law_value) = true)
    (l_law_odd : K.lookup f_law_odd = some ⟨oc_law_odd, od_law_odd, .func (PySem.W.fnOf "_law_odd" "_law_odd" (defArgs s_law_odd) (defBody s_law_odd) (defScope s_law_odd) .none kV_law_odd dc_law_odd pm_law_odd an_law_odd cd_law_odd ct_law_odd), sl_law_odd⟩)
    (c_law_odd : PySem.W.codeIn K cd_law_odd "_law_odd" = true)
    (k_law_odd : PySem.W.keepIn K (.ref f_law_odd) = true)
    (l_law_bent : K.lookup f_law_bent = some ⟨oc_law_bent, od_law_bent, .func (PySem.W.fnOf "_law_bent" "_law_bent" (defArgs s_law_bent) (defBody s_law_bent) (defScope s_law_bent) .none kV_law_bent dc_law_bent pm_law_bent an_law_bent cd_law_bent ct_law_bent), sl_law_bent⟩)
    (c_law_bent : PySem.W.codeIn K cd_law_bent "_law_bent" = true)
    (k_law_bent : PySem.W.keepIn K (.ref f_law_bent) = true)
    (l_law_right : K.lookup f_law_right = some ⟨oc_law_right, od_law_right, .func (PySem.W.fnOf "_law_right" "_law_right" (defArgs s_law_right) (defBody s_law_right) (defScope s_law_right) .none kV_law_right dc_law_right pm_law_right an_law_right cd_law_right ct_law_right), sl_law_right⟩)
    (c_law_right : PySem.W.codeIn K cd_law_right "_law_right" = true)
    (k_law_right : PySem.W.keepIn K (.ref f_law_right) = true)
    (l_law : K.lookup f_law = some ⟨oc_law, od_law, .func (PySem.W.fnOf "law" "law" (defArgs s_law) (defBody s_law) (defScope s_law) .none kV_law dc_law pm_law an_law cd_law ct_law), sl_law⟩)
    (c_law : PySem.W.codeIn K cd_law "law" = true)
    (k_law : PySem.W.keepIn K (.ref f_law) = true)
    (n_MAX_GENERATORS : PySem.W.nsIn K mainGlobals "MAX_GENERATORS" = some (some (.int 16 t_MAX_GENERATORS)))
    (n_MAX_GENERATOR_STEPS : PySem.W.nsIn K mainGlobals "MAX_GENERATOR_STEPS" = some (some (.int 60 t_MAX_GENERATOR_STEPS)))
    (n_MAX_LINES : PySem.W.nsIn K mainGlobals "MAX_LINES" = some (some (.int 60000 t_MAX_LINES)))
    (n_MAX_STEPS : PySem.W.nsIn K mainGlobals "MAX_STEPS" = some (some (.int 400 t_MAX_STEPS)))
    (n_MAX_VALUE_STEPS : PySem.W.nsIn K mainGlobals "MAX_VALUE_STEPS" = some (some (.int 1000 t_MAX_VALUE_STEPS)))
    (n_STEPS : PySem.W.nsIn K mainGlobals "STEPS" = some (some (.str "aAbBcCdD" t_STEPS)))
    (z_OverflowError : PySem.W.nsIn K mainGlobals "OverflowError" = some none)
    (z_all : PySem.W.nsIn K mainGlobals "all" = some none)
    (z_bool : PySem.W.nsIn K mainGlobals "bool" = some none)
    (z_enumerate : PySem.W.nsIn K mainGlobals "enumerate" = some none)
    (z_int : PySem.W.nsIn K mainGlobals "int" = some none)
    (z_isinstance : PySem.W.nsIn K mainGlobals "isinstance" = some none)
    (z_len : PySem.W.nsIn K mainGlobals "len" = some none)
    (z_list : PySem.W.nsIn K mainGlobals "list" = some none)
    (z_max : PySem.W.nsIn K mainGlobals "max" = some none)
    (z_min : PySem.W.nsIn K mainGlobals "min" = some none)
    (z_range : PySem.W.nsIn K mainGlobals "range" = some none)
    (z_repr : PySem.W.nsIn K mainGlobals "repr" = some none)
    (z_str : PySem.W.nsIn K mainGlobals "str" = some none)
    (z_tuple : PySem.W.nsIn K mainGlobals "tuple" = some none)
    (x_InvalidPath_im : PySem.W.excInitIn K e_InvalidPath [.type "ValueError", .type "Exception", .type "BaseException", .type "object"] "ValueError.__new__" = true)
    (x_InvalidPath_ov : PySem.W.excOver K e_InvalidPath [.type "ValueError", .type "Exception", .type "BaseException", .type "object"] = true)
    (x_InvalidPath_hd : PySem.W.hasDictIn K e_InvalidPath = true)
    (x_InvalidPath_sa : PySem.W.findIn K (.ref e_InvalidPath) "__setattr__" = some (some (.builtin "object.__setattr__")))
    (x_InvalidPath_ga : PySem.W.findIn K (.ref e_InvalidPath) "__getattribute__" = some (some (.builtin "BaseException.__getattribute__")))
    (x_InvalidPath_gg : PySem.W.findIn K (.ref e_InvalidPath) "__getattr__" = some none)
    (x_InvalidPath_exC : PySem.W.subIn K (.ref e_InvalidPath) (.type "BaseException") = some true)
    (x_InvalidPath_tyC : PySem.W.typeIn K (.ref e_InvalidPath) = some (.type "type"))
    (x_InvalidPath_kC : PySem.W.keepIn K (.ref e_InvalidPath) = true)
    (x_InvalidPath_cl : PySem.W.findIn K (.ref e_InvalidPath) "__class__" = some (some (.builtin "object.__class__")))
    (x_InvalidPath_gs : PySem.W.specialIn K (.builtin "object.__class__") "__get__" = some (some (.builtin "getset_descriptor.__get__")))
    (x_InvalidPath_tk : PySem.W.takesIn K (.builtin "object.__class__") = some true)
    (x_InvalidPath_mo : PySem.W.mroIn K e_InvalidPath (.type "object") = some true)
    (x_InvalidPaths_im : PySem.W.excInitIn K e_InvalidPaths [.type "ValueError", .type "Exception", .type "BaseException", .type "object"] "ValueError.__new__" = true)
    (x_InvalidPaths_ov : PySem.W.excOver K e_InvalidPaths [.type "ValueError", .type "Exception", .type "BaseException", .type "object"] = true)
    (x_InvalidPaths_hd : PySem.W.hasDictIn K e_InvalidPaths = true)
    (x_InvalidPaths_sa : PySem.W.findIn K (.ref e_InvalidPaths) "__setattr__" = some (some (.builtin "object.__setattr__")))
    (x_InvalidPaths_ga : PySem.W.findIn K (.ref e_InvalidPaths) "__getattribute__" = some (some (.builtin "BaseException.__getattribute__")))
    (x_InvalidPaths_gg : PySem.W.findIn K (.ref e_InvalidPaths) "__getattr__" = some none)
    (x_InvalidPaths_exC : PySem.W.subIn K (.ref e_InvalidPaths) (.type "BaseException") = some true)
    (x_InvalidPaths_tyC : PySem.W.typeIn K (.ref e_InvalidPaths) = some (.type "type"))
    (x_InvalidPaths_kC : PySem.W.keepIn K (.ref e_InvalidPaths) = true)
    (x_InvalidPaths_cl : PySem.W.findIn K (.ref e_InvalidPaths) "__class__" = some (some (.builtin "object.__class__")))
    (x_InvalidPaths_gs : PySem.W.specialIn K (.builtin "object.__class__") "__get__" = some (some (.builtin "getset_descriptor.__get__")))
    (x_InvalidPaths_tk : PySem.W.takesIn K (.builtin "object.__class__") = some true)
    (x_InvalidPaths_mo : PySem.W.mroIn K e_InvalidPaths (.type "object") = some true)
    (x_LimitExceeded_im : PySem.W.excInitIn K e_LimitExceeded [.type "OverflowError", .type "ArithmeticError", .type "Exception", .type "BaseException", .type "object"] "OverflowError.__new__" = true)
    (x_LimitExceeded_ov : PySem.W.excOver K e_LimitExceeded [.type "OverflowError", .type "ArithmeticError", .type "Exception", .type "BaseException", .type "object"] = true)
    (x_LimitExceeded_hd : PySem.W.hasDictIn K e_LimitExceeded = true)
    (x_LimitExceeded_sa : PySem.W.findIn K (.ref e_LimitExceeded) "__setattr__" = some (some (.builtin "object.__setattr__")))
    (x_LimitExceeded_ga : PySem.W.findIn K (.ref e_LimitExceeded) "__getattribute__" = some (some (.builtin "BaseException.__getattribute__")))
    (x_LimitExceeded_gg : PySem.W.findIn K (.ref e_LimitExceeded) "__getattr__" = some none)
    (x_LimitExceeded_exC : PySem.W.subIn K (.ref e_LimitExceeded) (.type "BaseException") = some true)
    (x_LimitExceeded_tyC : PySem.W.typeIn K (.ref e_LimitExceeded) = some (.type "type"))
    (x_LimitExceeded_kC : PySem.W.keepIn K (.ref e_LimitExceeded) = true)
    (x_LimitExceeded_cl : PySem.W.findIn K (.ref e_LimitExceeded) "__class__" = some (some (.builtin "object.__class__")))
    (x_LimitExceeded_gs : PySem.W.specialIn K (.builtin "object.__class__") "__get__" = some (some (.builtin "getset_descriptor.__get__")))
    (x_LimitExceeded_tk : PySem.W.takesIn K (.builtin "object.__class__") = some true)
    (x_LimitExceeded_mo : PySem.W.mroIn K e_LimitExceeded (.type "object") = some true)
    (t_InvalidPath : PySem.W.typeIn K (.ref f_InvalidPath___init__) = some (.type "function"))
    (t_InvalidPaths : PySem.W.typeIn K (.ref f_InvalidPaths___init__) = some (.type "function"))
    (t_LimitExceeded : PySem.W.typeIn K (.ref f_LimitExceeded___init__) = some (.type "function"))
    (n_InvalidPath_value : PySem.W.findIn K (.ref e_InvalidPath) "value" = some none)
    (n_InvalidPaths_index : PySem.W.findIn K (.ref e_InvalidPaths) "index" = some none)
    (n_LimitExceeded_limit : PySem.W.findIn K (.ref e_LimitExceeded) "limit" = some none)
    (v_OverflowError : PySem.W.findCls K (.type "OverflowError") (.type "type") "__init__" = some (.val (.builtin "OverflowError.__init__")))
    (s_PathError : PySem.W.specialIn K (.ref e_PathError) "__getattribute__" = some (some (.builtin "type.__getattribute__")))
    (r_PathError : PySem.W.readsIn K e_PathError (.type "type") = true)
    (v_PathError : PySem.W.findCls K (.ref e_PathError) (.type "type") "__init__" = some (.val (.builtin "ValueError.__init__"))) :
    ∃ fd : FuncData, (∀ (s : Shared) (v : Value), BindsTo s fd ⟨[v], []⟩ [("_law_script", v)]) ∧ ∀ base : Heap, K.In base → base.Ns mainGlobals mg → FnG l.prog w K mg base (L2.CX l.prog w) 7 fa fd ["_law_script"] (sp_law K) := by
  have e := hfa.symm.trans (PySem.W.mg_of X G a_law)
  cases e
  have T : Txt K mg ⟨f_InvalidPaths___init__, PySem.W.fnOf "__init__" "InvalidPaths.__init__" (defArgs s_InvalidPaths___init__) (defBody s_InvalidPaths___init__) (defScope s_InvalidPaths___init__) .none kV_InvalidPaths___init__ dc_InvalidPaths___init__ pm_InvalidPaths___init__ an_InvalidPaths___init__ cd_InvalidPaths___init__ ct_InvalidPaths___init__, f_is_path, PySem.W.fnOf "is_path" "is_path" (defArgs s_is_path) (defBody s_is_path) (defScope s_is_path) .none kV_is_path dc_is_path pm_is_path an_is_path cd_is_path ct_is_path, f_require_paths, PySem.W.fnOf "require_paths" "require_paths" (defArgs s_require_paths) (defBody s_require_paths) (defScope s_require_paths) .none kV_require_paths dc_require_paths pm_require_paths an_require_paths cd_require_paths ct_require_paths, f_LimitExceeded___init__, PySem.W.fnOf "__init__" "LimitExceeded.__init__" (defArgs s_LimitExceeded___init__) (defBody s_LimitExceeded___init__) (defScope s_LimitExceeded___init__) .none kV_LimitExceeded___init__ dc_LimitExceeded___init__ pm_LimitExceeded___init__ an_LimitExceeded___init__ cd_LimitExceeded___init__ ct_LimitExceeded___init__, f_reduce_all, PySem.W.fnOf "reduce_all" "reduce_all" (defArgs s_reduce_all) (defBody s_reduce_all) (defScope s_reduce_all) .none kV_reduce_all dc_reduce_all pm_reduce_all an_reduce_all cd_reduce_all ct_reduce_all, f_reduced_generator, PySem.W.fnOf "reduced_generator" "reduced_generator" (defArgs s_reduced_generator) (defBody s_reduced_generator) (defScope s_reduced_generator) .none kV_reduced_generator dc_reduced_generator pm_reduced_generator an_reduced_generator cd_reduced_generator ct_reduced_generator, f_reduced_generators, PySem.W.fnOf "reduced_generators" "reduced_generators" (defArgs s_reduced_generators) (defBody s_reduced_generators) (defScope s_reduced_generators) .none kV_reduced_generators dc_reduced_generators pm_reduced_generators an_reduced_generators cd_reduced_generators ct_reduced_generators, f_is_integer, PySem.W.fnOf "is_integer" "is_integer" (defArgs s_is_integer) (defBody s_is_integer) (defScope s_is_integer) .none kV_is_integer dc_is_integer pm_is_integer an_is_integer cd_is_integer ct_is_integer, f_is_line, PySem.W.fnOf "is_line" "is_line" (defArgs s_is_line) (defBody s_is_line) (defScope s_is_line) .none kV_is_line dc_is_line pm_is_line an_is_line cd_is_line ct_is_line, f_inverted, PySem.W.fnOf "inverted" "inverted" (defArgs s_inverted) (defBody s_inverted) (defScope s_inverted) .none kV_inverted dc_inverted pm_inverted an_inverted cd_inverted ct_inverted, f_line_values, PySem.W.fnOf "line_values" "line_values" (defArgs s_line_values) (defBody s_line_values) (defScope s_line_values) .none kV_line_values dc_line_values pm_line_values an_line_values cd_line_values ct_line_values, f_derives, PySem.W.fnOf "derives" "derives" (defArgs s_derives) (defBody s_derives) (defScope s_derives) .none kV_derives dc_derives pm_derives an_derives cd_derives ct_derives, f_InvalidPath___init__, PySem.W.fnOf "__init__" "InvalidPath.__init__" (defArgs s_InvalidPath___init__) (defBody s_InvalidPath___init__) (defScope s_InvalidPath___init__) .none kV_InvalidPath___init__ dc_InvalidPath___init__ pm_InvalidPath___init__ an_InvalidPath___init__ cd_InvalidPath___init__ ct_InvalidPath___init__, f_require_path, PySem.W.fnOf "require_path" "require_path" (defArgs s_require_path) (defBody s_require_path) (defScope s_require_path) .none kV_require_path dc_require_path pm_require_path an_require_path cd_require_path ct_require_path, f_reduced, PySem.W.fnOf "reduced" "reduced" (defArgs s_reduced) (defBody s_reduced) (defScope s_reduced) .none kV_reduced dc_reduced pm_reduced an_reduced cd_reduced ct_reduced, f_check_derivation, PySem.W.fnOf "check_derivation" "check_derivation" (defArgs s_check_derivation) (defBody s_check_derivation) (defScope s_check_derivation) .none kV_check_derivation dc_check_derivation pm_check_derivation an_check_derivation cd_check_derivation ct_check_derivation, f_law_take, PySem.W.fnOf "_law_take" "_law_take" (defArgs s_law_take) (defBody s_law_take) (defScope s_law_take) .none kV_law_take dc_law_take pm_law_take an_law_take cd_law_take ct_law_take, f_law_limits_right, PySem.W.fnOf "_law_limits_right" "_law_limits_right" (defArgs s_law_limits_right) (defBody s_law_limits_right) (defScope s_law_limits_right) .none kV_law_limits_right dc_law_limits_right pm_law_limits_right an_law_limits_right cd_law_limits_right ct_law_limits_right, f_law_pool, PySem.W.fnOf "_law_pool" "_law_pool" (defArgs s_law_pool) (defBody s_law_pool) (defScope s_law_pool) .none kV_law_pool dc_law_pool pm_law_pool an_law_pool cd_law_pool ct_law_pool, f_law_path, PySem.W.fnOf "_law_path" "_law_path" (defArgs s_law_path) (defBody s_law_path) (defScope s_law_path) .none kV_law_path dc_law_path pm_law_path an_law_path cd_law_path ct_law_path, f_law_generators, PySem.W.fnOf "_law_generators" "_law_generators" (defArgs s_law_generators) (defBody s_law_generators) (defScope s_law_generators) .none kV_law_generators dc_law_generators pm_law_generators an_law_generators cd_law_generators ct_law_generators, f_law_drawn, PySem.W.fnOf "_law_drawn" "_law_drawn" (defArgs s_law_drawn) (defBody s_law_drawn) (defScope s_law_drawn) .none kV_law_drawn dc_law_drawn pm_law_drawn an_law_drawn cd_law_drawn ct_law_drawn, f_law_is_number, PySem.W.fnOf "_law_is_number" "_law_is_number" (defArgs s_law_is_number) (defBody s_law_is_number) (defScope s_law_is_number) .none kV_law_is_number dc_law_is_number pm_law_is_number an_law_is_number cd_law_is_number ct_law_is_number, f_law_is_line, PySem.W.fnOf "_law_is_line" "_law_is_line" (defArgs s_law_is_line) (defBody s_law_is_line) (defScope s_law_is_line) .none kV_law_is_line dc_law_is_line pm_law_is_line an_law_is_line cd_law_is_line ct_law_is_line, f_law_inverse_step, PySem.W.fnOf "_law_inverse_step" "_law_inverse_step" (defArgs s_law_inverse_step) (defBody s_law_inverse_step) (defScope s_law_inverse_step) .none kV_law_inverse_step dc_law_inverse_step pm_law_inverse_step an_law_inverse_step cd_law_inverse_step ct_law_inverse_step, f_law_reduced, PySem.W.fnOf "_law_reduced" "_law_reduced" (defArgs s_law_reduced) (defBody s_law_reduced) (defScope s_law_reduced) .none kV_law_reduced dc_law_reduced pm_law_reduced an_law_reduced cd_law_reduced ct_law_reduced, f_law_inverse, PySem.W.fnOf "_law_inverse" "_law_inverse" (defArgs s_law_inverse) (defBody s_law_inverse) (defScope s_law_inverse) .none kV_law_inverse dc_law_inverse pm_law_inverse an_law_inverse cd_law_inverse ct_law_inverse, f_law_value, PySem.W.fnOf "_law_value" "_law_value" (defArgs s_law_value) (defBody s_law_value) (defScope s_law_value) .none kV_law_value dc_law_value pm_law_value an_law_value cd_law_value ct_law_value, f_law_odd, PySem.W.fnOf "_law_odd" "_law_odd" (defArgs s_law_odd) (defBody s_law_odd) (defScope s_law_odd) .none kV_law_odd dc_law_odd pm_law_odd an_law_odd cd_law_odd ct_law_odd, f_law_bent, PySem.W.fnOf "_law_bent" "_law_bent" (defArgs s_law_bent) (defBody s_law_bent) (defScope s_law_bent) .none kV_law_bent dc_law_bent pm_law_bent an_law_bent cd_law_bent ct_law_bent, f_law_right, PySem.W.fnOf "_law_right" "_law_right" (defArgs s_law_right) (defBody s_law_right) (defScope s_law_right) .none kV_law_right dc_law_right pm_law_right an_law_right cd_law_right ct_law_right, fa, PySem.W.fnOf "law" "law" (defArgs s_law) (defBody s_law) (defScope s_law) .none kV_law dc_law pm_law an_law cd_law ct_law, e_InvalidPath, e_InvalidPaths, e_LimitExceeded, e_PathError⟩ := {
    g_InvalidPath := PySem.W.mg_of X G ac_InvalidPath
    g_InvalidPaths := PySem.W.mg_of X G ac_InvalidPaths
    g_LimitExceeded := PySem.W.mg_of X G ac_LimitExceeded
    g_PathError := PySem.W.mg_of X G ac_PathError
    i_InvalidPath := i_InvalidPath
    i_InvalidPaths := i_InvalidPaths
    i_LimitExceeded := i_LimitExceeded
    f_InvalidPaths___init__ := fun_mk (st := s_InvalidPaths___init__) l_InvalidPaths___init__ c_InvalidPaths___init__ k_InvalidPaths___init__
    b_InvalidPaths___init__ := (fun_mk (st := s_InvalidPaths___init__) l_InvalidPaths___init__ c_InvalidPaths___init__ k_InvalidPaths___init__).binds (ps := ["self", "index"]) fun _ _ _ _ _ _ us hl => match us, hl with | [_, _], _ => rfl
    f_is_path := fun_mk (st := s_is_path) l_is_path c_is_path k_is_path
    g_is_path := PySem.W.mg_of X G a_is_path
    b_is_path := (fun_mk (st := s_is_path) l_is_path c_is_path k_is_path).binds (ps := ["value"]) fun _ _ _ _ _ _ us hl => match us, hl with | [_], _ => rfl
    f_require_paths := fun_mk (st := s_require_paths) l_require_paths c_require_paths k_require_paths
    g_require_paths := PySem.W.mg_of X G a_require_paths
    b_require_paths := (fun_mk (st := s_require_paths) l_require_paths c_require_paths k_require_paths).binds (ps := ["paths", "most"]) fun _ _ _ _ _ _ us hl => match us, hl with | [_, _], _ => rfl
    f_LimitExceeded___init__ := fun_mk (st := s_LimitExceeded___init__) l_LimitExceeded___init__ c_LimitExceeded___init__ k_LimitExceeded___init__
    b_LimitExceeded___init__ := (fun_mk (st := s_LimitExceeded___init__) l_LimitExceeded___init__ c_LimitExceeded___init__ k_LimitExceeded___init__).binds (ps := ["self", "limit"]) fun _ _ _ _ _ _ us hl => match us, hl with | [_, _], _ => rfl
    f_reduce_all := fun_mk (st := s_reduce_all) l_reduce_all c_reduce_all k_reduce_all
    g_reduce_all := PySem.W.mg_of X G a_reduce_all
    b_reduce_all := (fun_mk (st := s_reduce_all) l_reduce_all c_reduce_all k_reduce_all).binds (ps := ["parts"]) fun _ _ _ _ _ _ us hl => match us, hl with | [_], _ => rfl
    f_reduced_generator := fun_mk (st := s_reduced_generator) l_reduced_generator c_reduced_generator k_reduced_generator
    g_reduced_generator := PySem.W.mg_of X G a_reduced_generator
    b_reduced_generator := (fun_mk (st := s_reduced_generator) l_reduced_generator c_reduced_generator k_reduced_generator).binds (ps := ["path"]) fun _ _ _ _ _ _ us hl => match us, hl with | [_], _ => rfl
    f_reduced_generators := fun_mk (st := s_reduced_generators) l_reduced_generators c_reduced_generators k_reduced_generators
    g_reduced_generators := PySem.W.mg_of X G a_reduced_generators
    b_reduced_generators := (fun_mk (st := s_reduced_generators) l_reduced_generators c_reduced_generators k_reduced_generators).binds (ps := ["generators"]) fun _ _ _ _ _ _ us hl => match us, hl with | [_], _ => rfl
    f_is_integer := fun_mk (st := s_is_integer) l_is_integer c_is_integer k_is_integer
    g_is_integer := PySem.W.mg_of X G a_is_integer
    b_is_integer := (fun_mk (st := s_is_integer) l_is_integer c_is_integer k_is_integer).binds (ps := ["value"]) fun _ _ _ _ _ _ us hl => match us, hl with | [_], _ => rfl
    f_is_line := fun_mk (st := s_is_line) l_is_line c_is_line k_is_line
    g_is_line := PySem.W.mg_of X G a_is_line
    b_is_line := (fun_mk (st := s_is_line) l_is_line c_is_line k_is_line).binds (ps := ["value", "number", "generator_count"]) fun _ _ _ _ _ _ us hl => match us, hl with | [_, _, _], _ => rfl
    f_inverted := fun_mk (st := s_inverted) l_inverted c_inverted k_inverted
    g_inverted := PySem.W.mg_of X G a_inverted
    b_inverted := (fun_mk (st := s_inverted) l_inverted c_inverted k_inverted).binds (ps := ["steps"]) fun _ _ _ _ _ _ us hl => match us, hl with | [_], _ => rfl
    f_line_values := fun_mk (st := s_line_values) l_line_values c_line_values k_line_values
    g_line_values := PySem.W.mg_of X G a_line_values
    b_line_values := (fun_mk (st := s_line_values) l_line_values c_line_values k_line_values).binds (ps := ["paths", "derivation"]) fun _ _ _ _ _ _ us hl => match us, hl with | [_, _], _ => rfl
    f_derives := fun_mk (st := s_derives) l_derives c_derives k_derives
    g_derives := PySem.W.mg_of X G a_derives
    b_derives := (fun_mk (st := s_derives) l_derives c_derives k_derives).binds (ps := ["paths", "path", "derivation"]) fun _ _ _ _ _ _ us hl => match us, hl with | [_, _, _], _ => rfl
    f_InvalidPath___init__ := fun_mk (st := s_InvalidPath___init__) l_InvalidPath___init__ c_InvalidPath___init__ k_InvalidPath___init__
    b_InvalidPath___init__ := (fun_mk (st := s_InvalidPath___init__) l_InvalidPath___init__ c_InvalidPath___init__ k_InvalidPath___init__).binds (ps := ["self", "value"]) fun _ _ _ _ _ _ us hl => match us, hl with | [_, _], _ => rfl
    f_require_path := fun_mk (st := s_require_path) l_require_path c_require_path k_require_path
    g_require_path := PySem.W.mg_of X G a_require_path
    b_require_path := (fun_mk (st := s_require_path) l_require_path c_require_path k_require_path).binds (ps := ["value"]) fun _ _ _ _ _ _ us hl => match us, hl with | [_], _ => rfl
    f_reduced := fun_mk (st := s_reduced) l_reduced c_reduced k_reduced
    g_reduced := PySem.W.mg_of X G a_reduced
    b_reduced := (fun_mk (st := s_reduced) l_reduced c_reduced k_reduced).binds (ps := ["path"]) fun _ _ _ _ _ _ us hl => match us, hl with | [_], _ => rfl
    f_check_derivation := fun_mk (st := s_check_derivation) l_check_derivation c_check_derivation k_check_derivation
    g_check_derivation := PySem.W.mg_of X G a_check_derivation
    b_check_derivation := (fun_mk (st := s_check_derivation) l_check_derivation c_check_derivation k_check_derivation).binds (ps := ["generators", "path", "derivation"]) fun _ _ _ _ _ _ us hl => match us, hl with | [_, _, _], _ => rfl
    f_law_take := fun_mk (st := s_law_take) l_law_take c_law_take k_law_take
    g_law_take := PySem.W.mg_of X G a_law_take
    b_law_take := (fun_mk (st := s_law_take) l_law_take c_law_take k_law_take).binds (ps := ["_law_pool_here", "_law_many"]) fun _ _ _ _ _ _ us hl => match us, hl with | [_, _], _ => rfl
    f_law_limits_right := fun_mk (st := s_law_limits_right) l_law_limits_right c_law_limits_right k_law_limits_right
    g_law_limits_right := PySem.W.mg_of X G a_law_limits_right
    b_law_limits_right := (fun_mk (st := s_law_limits_right) l_law_limits_right c_law_limits_right k_law_limits_right).binds (ps := ["_law_pool_here"]) fun _ _ _ _ _ _ us hl => match us, hl with | [_], _ => rfl
    f_law_pool := fun_mk (st := s_law_pool) l_law_pool c_law_pool k_law_pool
    g_law_pool := PySem.W.mg_of X G a_law_pool
    b_law_pool := (fun_mk (st := s_law_pool) l_law_pool c_law_pool k_law_pool).binds (ps := ["_law_script", "_law_k"]) fun _ _ _ _ _ _ us hl => match us, hl with | [_, _], _ => rfl
    f_law_path := fun_mk (st := s_law_path) l_law_path c_law_path k_law_path
    g_law_path := PySem.W.mg_of X G a_law_path
    b_law_path := (fun_mk (st := s_law_path) l_law_path c_law_path k_law_path).binds (ps := ["_law_pool_here", "_law_most", "_law_letters"]) fun _ _ _ _ _ _ us hl => match us, hl with | [_, _, _], _ => rfl
    f_law_generators := fun_mk (st := s_law_generators) l_law_generators c_law_generators k_law_generators
    g_law_generators := PySem.W.mg_of X G a_law_generators
    b_law_generators := (fun_mk (st := s_law_generators) l_law_generators c_law_generators k_law_generators).binds (ps := ["_law_pool_here", "_law_many", "_law_most", "_law_letters"]) fun _ _ _ _ _ _ us hl => match us, hl with | [_, _, _, _], _ => rfl
    f_law_drawn := fun_mk (st := s_law_drawn) l_law_drawn c_law_drawn k_law_drawn
    g_law_drawn := PySem.W.mg_of X G a_law_drawn
    b_law_drawn := (fun_mk (st := s_law_drawn) l_law_drawn c_law_drawn k_law_drawn).binds (ps := ["_law_pool_here", "_law_many"]) fun _ _ _ _ _ _ us hl => match us, hl with | [_, _], _ => rfl
    f_law_is_number := fun_mk (st := s_law_is_number) l_law_is_number c_law_is_number k_law_is_number
    g_law_is_number := PySem.W.mg_of X G a_law_is_number
    b_law_is_number := (fun_mk (st := s_law_is_number) l_law_is_number c_law_is_number k_law_is_number).binds (ps := ["_law_thing", "_law_most"]) fun _ _ _ _ _ _ us hl => match us, hl with | [_, _], _ => rfl
    f_law_is_line := fun_mk (st := s_law_is_line) l_law_is_line c_law_is_line k_law_is_line
    g_law_is_line := PySem.W.mg_of X G a_law_is_line
    b_law_is_line := (fun_mk (st := s_law_is_line) l_law_is_line c_law_is_line k_law_is_line).binds (ps := ["_law_line", "_law_number", "_law_many"]) fun _ _ _ _ _ _ us hl => match us, hl with | [_, _, _], _ => rfl
    f_law_inverse_step := fun_mk (st := s_law_inverse_step) l_law_inverse_step c_law_inverse_step k_law_inverse_step
    g_law_inverse_step := PySem.W.mg_of X G a_law_inverse_step
    b_law_inverse_step := (fun_mk (st := s_law_inverse_step) l_law_inverse_step c_law_inverse_step k_law_inverse_step).binds (ps := ["_law_step"]) fun _ _ _ _ _ _ us hl => match us, hl with | [_], _ => rfl
    f_law_reduced := fun_mk (st := s_law_reduced) l_law_reduced c_law_reduced k_law_reduced
    g_law_reduced := PySem.W.mg_of X G a_law_reduced
    b_law_reduced := (fun_mk (st := s_law_reduced) l_law_reduced c_law_reduced k_law_reduced).binds (ps := ["_law_path_here"]) fun _ _ _ _ _ _ us hl => match us, hl with | [_], _ => rfl
    f_law_inverse := fun_mk (st := s_law_inverse) l_law_inverse c_law_inverse k_law_inverse
    g_law_inverse := PySem.W.mg_of X G a_law_inverse
    b_law_inverse := (fun_mk (st := s_law_inverse) l_law_inverse c_law_inverse k_law_inverse).binds (ps := ["_law_path_here"]) fun _ _ _ _ _ _ us hl => match us, hl with | [_], _ => rfl
    f_law_value := fun_mk (st := s_law_value) l_law_value c_law_value k_law_value
    g_law_value := PySem.W.mg_of X G a_law_value
    b_law_value := (fun_mk (st := s_law_value) l_law_value c_law_value k_law_value).binds (ps := ["_law_paths", "_law_derivation"]) fun _ _ _ _ _ _ us hl => match us, hl with | [_, _], _ => rfl
    f_law_odd := fun_mk (st := s_law_odd) l_law_odd c_law_odd k_law_odd
    g_law_odd := PySem.W.mg_of X G a_law_odd
    b_law_odd := (fun_mk (st := s_law_odd) l_law_odd c_law_odd k_law_odd).binds (ps := ["_law_pool_here", "_law_at", "_law_many"]) fun _ _ _ _ _ _ us hl => match us, hl with | [_, _, _], _ => rfl
    f_law_bent := fun_mk (st := s_law_bent) l_law_bent c_law_bent k_law_bent
    g_law_bent := PySem.W.mg_of X G a_law_bent
    b_law_bent := (fun_mk (st := s_law_bent) l_law_bent c_law_bent k_law_bent).binds (ps := ["_law_pool_here", "_law_derivation", "_law_many"]) fun _ _ _ _ _ _ us hl => match us, hl with | [_, _, _], _ => rfl
    f_law_right := fun_mk (st := s_law_right) l_law_right c_law_right k_law_right
    g_law_right := PySem.W.mg_of X G a_law_right
    b_law_right := (fun_mk (st := s_law_right) l_law_right c_law_right k_law_right).binds (ps := ["_law_paths", "_law_path_here", "_law_derivation"]) fun _ _ _ _ _ _ us hl => match us, hl with | [_, _, _], _ => rfl
    f_law := fun_mk (st := s_law) l_law c_law k_law
    g_law := PySem.W.mg_of X G a_law
    b_law := (fun_mk (st := s_law) l_law c_law k_law).binds (ps := ["_law_script"]) fun _ _ _ _ _ _ us hl => match us, hl with | [_], _ => rfl
    c_MAX_GENERATORS := ⟨_, PySem.W.mg_of X G n_MAX_GENERATORS⟩
    c_MAX_GENERATOR_STEPS := ⟨_, PySem.W.mg_of X G n_MAX_GENERATOR_STEPS⟩
    c_MAX_LINES := ⟨_, PySem.W.mg_of X G n_MAX_LINES⟩
    c_MAX_STEPS := ⟨_, PySem.W.mg_of X G n_MAX_STEPS⟩
    c_MAX_VALUE_STEPS := ⟨_, PySem.W.mg_of X G n_MAX_VALUE_STEPS⟩
    c_STEPS := ⟨_, PySem.W.mg_of X G n_STEPS⟩
    z_OverflowError := PySem.W.mg_none_of X G z_OverflowError
    z_all := PySem.W.mg_none_of X G z_all
    z_bool := PySem.W.mg_none_of X G z_bool
    z_enumerate := PySem.W.mg_none_of X G z_enumerate
    z_int := PySem.W.mg_none_of X G z_int
    z_isinstance := PySem.W.mg_none_of X G z_isinstance
    z_len := PySem.W.mg_none_of X G z_len
    z_list := PySem.W.mg_none_of X G z_list
    z_max := PySem.W.mg_none_of X G z_max
    z_min := PySem.W.mg_none_of X G z_min
    z_range := PySem.W.mg_none_of X G z_range
    z_repr := PySem.W.mg_none_of X G z_repr
    z_str := PySem.W.mg_none_of X G z_str
    z_tuple := PySem.W.mg_none_of X G z_tuple
    x_InvalidPath := ⟨x_InvalidPath_im, x_InvalidPath_ov, x_InvalidPath_hd, x_InvalidPath_sa, x_InvalidPath_ga, x_InvalidPath_gg, x_InvalidPath_exC, x_InvalidPath_tyC, x_InvalidPath_kC, x_InvalidPath_cl, x_InvalidPath_gs, x_InvalidPath_tk, x_InvalidPath_mo⟩
    x_InvalidPaths := ⟨x_InvalidPaths_im, x_InvalidPaths_ov, x_InvalidPaths_hd, x_InvalidPaths_sa, x_InvalidPaths_ga, x_InvalidPaths_gg, x_InvalidPaths_exC, x_InvalidPaths_tyC, x_InvalidPaths_kC, x_InvalidPaths_cl, x_InvalidPaths_gs, x_InvalidPaths_tk, x_InvalidPaths_mo⟩
    x_LimitExceeded := ⟨x_LimitExceeded_im, x_LimitExceeded_ov, x_LimitExceeded_hd, x_LimitExceeded_sa, x_LimitExceeded_ga, x_LimitExceeded_gg, x_LimitExceeded_exC, x_LimitExceeded_tyC, x_LimitExceeded_kC, x_LimitExceeded_cl, x_LimitExceeded_gs, x_LimitExceeded_tk, x_LimitExceeded_mo⟩
    t_InvalidPath := t_InvalidPath
    t_InvalidPaths := t_InvalidPaths
    t_LimitExceeded := t_LimitExceeded
    n_InvalidPath_value := n_InvalidPath_value
    n_InvalidPaths_index := n_InvalidPaths_index
    n_LimitExceeded_limit := n_LimitExceeded_limit
    v_OverflowError := v_OverflowError
    s_PathError := s_PathError
    r_PathError := r_PathError
    v_PathError := v_PathError }
  exact ⟨_, fun s v => .of_eq rfl, fun base _ _ => ok_law2 T⟩
end Pf
open PySem PySem.W PyProof.Rows
set_option maxRecDepth 100000 in
set_option maxHeartbeats 0 in
theorem PySem.Challenge.cw_walkshome_k21_derivation_checker_holds : PySem.Challenge.rw_walkshome_k21_derivation_checker.Holds := by
  w_on; o_law; k_head; (case hw => w_witness2)
  k_fill
  refine Hx.walkG (l := PySem.Challenge.rw_walkshome_k21_derivation_checker) (n := 63) (k := 7) (x := "_law_script") (CX := fun w => L2.CX (PySem.Challenge.rw_walkshome_k21_derivation_checker).prog w) (sp := fun w => Pf.sp_law _) rfl (by decide) rfl ⟨rfl, by decide, by decide⟩ (fun w h Y => PySem.W.kIn_of Y) ?F (fun _ _ a ns hl _ hS => ⟨a, ns, rfl, hS, hl, fun _ => rfl⟩) (fun _ _ _ _ _ h => by obtain ⟨_, _, _, _, _, _, _, _, _, _, _, _, z⟩ := h; exact z)
  case F =>
    intro w mg fa h KX G hmg
    refine' Pf.all_mk KX G hmg ?a_is_path ?a_require_paths ?a_reduce_all ?a_reduced_generator ?a_reduced_generators ?a_is_integer ?a_is_line ?a_inverted ?a_line_values ?a_derives ?a_require_path ?a_reduced ?a_check_derivation ?a_law_take ?a_law_limits_right ?a_law_pool ?a_law_path ?a_law_generators ?a_law_drawn ?a_law_is_number ?a_law_is_line ?a_law_inverse_step ?a_law_reduced ?a_law_inverse ?a_law_value ?a_law_odd ?a_law_bent ?a_law_right ?a_law ?ac_InvalidPath ?ac_InvalidPaths ?ac_LimitExceeded ?ac_PathError ?i_InvalidPath ?i_InvalidPaths ?i_LimitExceeded ?l_InvalidPaths___init__ ?c_InvalidPaths___init__ ?k_InvalidPaths___init__ ?l_is_path ?c_is_path ?k_is_path ?l_require_paths ?c_require_paths ?k_require_paths ?l_LimitExceeded___init__ ?c_LimitExceeded___init__ ?k_LimitExceeded___init__ ?l_reduce_all ?c_reduce_all ?k_reduce_all ?l_reduced_generator ?c_reduced_generator ?k_reduced_generator ?l_reduced_generators ?c_reduced_generators ?k_reduced_generators ?l_is_integer ?c_is_integer ?k_is_integer ?l_is_line ?c_is_line ?k_is_line ?l_inverted ?c_inverted ?k_inverted ?l_line_values ?c_line_values ?k_line_values ?l_derives ?c_derives ?k_derives ?l_InvalidPath___init__ ?c_InvalidPath___init__ ?k_InvalidPath___init__ ?l_require_path ?c_require_path ?k_require_path ?l_reduced ?c_reduced ?k_reduced ?l_check_derivation ?c_check_derivation ?k_check_derivation ?l_law_take ?c_law_take ?k_law_take ?l_law_limits_right ?c_law_limits_right ?k_law_limits_right ?l_law_pool ?c_law_pool ?k_law_pool ?l_law_path ?c_law_path ?k_law_path ?l_law_generators ?c_law_generators ?k_law_generators ?l_law_drawn ?c_law_drawn ?k_law_drawn ?l_law_is_number ?c_law_is_number ?k_law_is_number ?l_law_is_line ?c_law_is_line ?k_law_is_line ?l_law_inverse_step ?c_law_inverse_step ?k_law_inverse_step ?l_law_reduced ?c_law_reduced ?k_law_reduced ?l_law_inverse ?c_law_inverse ?k_law_inverse ?l_law_value ?c_law_value ?k_law_value ?l_law_odd ?c_law_odd ?k_law_odd ?l_law_bent ?c_law_bent ?k_law_bent ?l_law_right ?c_law_right ?k_law_right ?l_law ?c_law ?k_law ?n_MAX_GENERATORS ?n_MAX_GENERATOR_STEPS ?n_MAX_LINES ?n_MAX_STEPS ?n_MAX_VALUE_STEPS ?n_STEPS ?z_OverflowError ?z_all ?z_bool ?z_enumerate ?z_int ?z_isinstance ?z_len ?z_list ?z_max ?z_min ?z_range ?z_repr ?z_str ?z_tuple ?x_InvalidPath_im ?x_InvalidPath_ov ?x_InvalidPath_hd ?x_InvalidPath_sa ?x_InvalidPath_ga ?x_InvalidPath_gg ?x_InvalidPath_exC ?x_InvalidPath_tyC ?x_InvalidPath_kC ?x_InvalidPath_cl ?x_InvalidPath_gs ?x_InvalidPath_tk ?x_InvalidPath_mo ?x_InvalidPaths_im ?x_InvalidPaths_ov ?x_InvalidPaths_hd ?x_InvalidPaths_sa ?x_InvalidPaths_ga ?x_InvalidPaths_gg ?x_InvalidPaths_exC ?x_InvalidPaths_tyC ?x_InvalidPaths_kC ?x_InvalidPaths_cl ?x_InvalidPaths_gs ?x_InvalidPaths_tk ?x_InvalidPaths_mo ?x_LimitExceeded_im ?x_LimitExceeded_ov ?x_LimitExceeded_hd ?x_LimitExceeded_sa ?x_LimitExceeded_ga ?x_LimitExceeded_gg ?x_LimitExceeded_exC ?x_LimitExceeded_tyC ?x_LimitExceeded_kC ?x_LimitExceeded_cl ?x_LimitExceeded_gs ?x_LimitExceeded_tk ?x_LimitExceeded_mo ?t_InvalidPath ?t_InvalidPaths ?t_LimitExceeded ?n_InvalidPath_value ?n_InvalidPaths_index ?n_LimitExceeded_limit ?v_OverflowError ?s_PathError ?r_PathError ?v_PathError
    (case a_is_path => k_is)
    (case a_require_paths => k_is)
    (case a_reduce_all => k_is)
    (case a_reduced_generator => k_is)
    (case a_reduced_generators => k_is)
    (case a_is_integer => k_is)
    (case a_is_line => k_is)
    (case a_inverted => k_is)
    (case a_line_values => k_is)
    (case a_derives => k_is)
    (case a_require_path => k_is)
    (case a_reduced => k_is)
    (case a_check_derivation => k_is)
    (case a_law_take => k_is)
    (case a_law_limits_right => k_is)
    (case a_law_pool => k_is)
    (case a_law_path => k_is)
    (case a_law_generators => k_is)
    (case a_law_drawn => k_is)
    (case a_law_is_number => k_is)
    (case a_law_is_line => k_is)
    (case a_law_inverse_step => k_is)
    (case a_law_reduced => k_is)
    (case a_law_inverse => k_is)
    (case a_law_value => k_is)
    (case a_law_odd => k_is)
    (case a_law_bent => k_is)
    (case a_law_right => k_is)
    (case a_law => k_is)
    (case ac_InvalidPath => k_is)
    (case ac_InvalidPaths => k_is)
    (case ac_LimitExceeded => k_is)
    (case ac_PathError => k_is)
    (case i_InvalidPath => k_is)
    (case i_InvalidPaths => k_is)
    (case i_LimitExceeded => k_is)
    (case l_InvalidPaths___init__ => k_is)
    (case c_InvalidPaths___init__ => k_is)
    (case k_InvalidPaths___init__ => k_is)
    (case l_is_path => k_is)
    (case c_is_path => k_is)
    (case k_is_path => k_is)
    (case l_require_paths => k_is)
    (case c_require_paths => k_is)
    (case k_require_paths => k_is)
    (case l_LimitExceeded___init__ => k_is)
    (case c_LimitExceeded___init__ => k_is)
    (case k_LimitExceeded___init__ => k_is)
    (case l_reduce_all => k_is)
    (case c_reduce_all => k_is)
    (case k_reduce_all => k_is)
    (case l_reduced_generator => k_is)
    (case c_reduced_generator => k_is)
    (case k_reduced_generator => k_is)
    (case l_reduced_generators => k_is)
    (case c_reduced_generators => k_is)
    (case k_reduced_generators => k_is)
    (case l_is_integer => k_is)
    (case c_is_integer => k_is)
    (case k_is_integer => k_is)
    (case l_is_line => k_is)
    (case c_is_line => k_is)
    (case k_is_line => k_is)
    (case l_inverted => k_is)
    (case c_inverted => k_is)
    (case k_inverted => k_is)
    (case l_line_values => k_is)
    (case c_line_values => k_is)
    (case k_line_values => k_is)
    (case l_derives => k_is)
    (case c_derives => k_is)
    (case k_derives => k_is)
    (case l_InvalidPath___init__ => k_is)
    (case c_InvalidPath___init__ => k_is)
    (case k_InvalidPath___init__ => k_is)
    (case l_require_path => k_is)
    (case c_require_path => k_is)
    (case k_require_path => k_is)
    (case l_reduced => k_is)
    (case c_reduced => k_is)
    (case k_reduced => k_is)
    (case l_check_derivation => k_is)
    (case c_check_derivation => k_is)
    (case k_check_derivation => k_is)
    (case l_law_take => k_is)
    (case c_law_take => k_is)
    (case k_law_take => k_is)
    (case l_law_limits_right => k_is)
    (case c_law_limits_right => k_is)
    (case k_law_limits_right => k_is)
    (case l_law_pool => k_is)
    (case c_law_pool => k_is)
    (case k_law_pool => k_is)
    (case l_law_path => k_is)
    (case c_law_path => k_is)
    (case k_law_path => k_is)
    (case l_law_generators => k_is)
    (case c_law_generators => k_is)
    (case k_law_generators => k_is)
    (case l_law_drawn => k_is)
    (case c_law_drawn => k_is)
    (case k_law_drawn => k_is)
    (case l_law_is_number => k_is)
    (case c_law_is_number => k_is)
    (case k_law_is_number => k_is)
    (case l_law_is_line => k_is)
    (case c_law_is_line => k_is)
    (case k_law_is_line => k_is)
    (case l_law_inverse_step => k_is)
    (case c_law_inverse_step => k_is)
    (case k_law_inverse_step => k_is)
    (case l_law_reduced => k_is)
    (case c_law_reduced => k_is)
    (case k_law_reduced => k_is)
    (case l_law_inverse => k_is)
    (case c_law_inverse => k_is)
    (case k_law_inverse => k_is)
    (case l_law_value => k_is)
    (case c_law_value => k_is)
    (case k_law_value => k_is)
    (case l_law_odd => k_is)
    (case c_law_odd => k_is)
    (case k_law_odd => k_is)
    (case l_law_bent => k_is)
    (case c_law_bent => k_is)
    (case k_law_bent => k_is)
    (case l_law_right => k_is)
    (case c_law_right => k_is)
    (case k_law_right => k_is)
    (case l_law => k_is)
    (case c_law => k_is)
    (case k_law => k_is)
    (case n_MAX_GENERATORS => k_is)
    (case n_MAX_GENERATOR_STEPS => k_is)
    (case n_MAX_LINES => k_is)
    (case n_MAX_STEPS => k_is)
    (case n_MAX_VALUE_STEPS => k_is)
    (case n_STEPS => k_is)
    (case z_OverflowError => k_is)
    (case z_all => k_is)
    (case z_bool => k_is)
    (case z_enumerate => k_is)
    (case z_int => k_is)
    (case z_isinstance => k_is)
    (case z_len => k_is)
    (case z_list => k_is)
    (case z_max => k_is)
    (case z_min => k_is)
    (case z_range => k_is)
    (case z_repr => k_is)
    (case z_str => k_is)
    (case z_tuple => k_is)
    (case x_InvalidPath_im => kx_is; done)
    (case x_InvalidPath_ov => kx_is; done)
    (case x_InvalidPath_hd => k_is)
    (case x_InvalidPath_sa => k_is)
    (case x_InvalidPath_ga => k_is)
    (case x_InvalidPath_gg => k_is)
    (case x_InvalidPath_exC => k_is)
    (case x_InvalidPath_tyC => k_is)
    (case x_InvalidPath_kC => k_is)
    (case x_InvalidPath_cl => k_is)
    (case x_InvalidPath_gs => k_is)
    (case x_InvalidPath_tk => k_is)
    (case x_InvalidPath_mo => k_is)
    (case x_InvalidPaths_im => kx_is; done)
    (case x_InvalidPaths_ov => kx_is; done)
    (case x_InvalidPaths_hd => k_is)
    (case x_InvalidPaths_sa => k_is)
    (case x_InvalidPaths_ga => k_is)
    (case x_InvalidPaths_gg => k_is)
    (case x_InvalidPaths_exC => k_is)
    (case x_InvalidPaths_tyC => k_is)
    (case x_InvalidPaths_kC => k_is)
    (case x_InvalidPaths_cl => k_is)
    (case x_InvalidPaths_gs => k_is)
    (case x_InvalidPaths_tk => k_is)
    (case x_InvalidPaths_mo => k_is)
    (case x_LimitExceeded_im => kx_is; done)
    (case x_LimitExceeded_ov => kx_is; done)
    (case x_LimitExceeded_hd => k_is)
    (case x_LimitExceeded_sa => k_is)
    (case x_LimitExceeded_ga => k_is)
    (case x_LimitExceeded_gg => k_is)
    (case x_LimitExceeded_exC => k_is)
    (case x_LimitExceeded_tyC => k_is)
    (case x_LimitExceeded_kC => k_is)
    (case x_LimitExceeded_cl => k_is)
    (case x_LimitExceeded_gs => k_is)
    (case x_LimitExceeded_tk => k_is)
    (case x_LimitExceeded_mo => k_is)
    (case t_InvalidPath => k_is)
    (case t_InvalidPaths => k_is)
    (case t_LimitExceeded => k_is)
    (case n_InvalidPath_value => k_is)
    (case n_InvalidPaths_index => k_is)
    (case n_LimitExceeded_limit => k_is)
    (case v_OverflowError => k_is)
    (case s_PathError => k_is)
    (case r_PathError => k_is)
    (case v_PathError => k_is)
#print axioms PySem.Challenge.cw_walkshome_k21_derivation_checker_holds
