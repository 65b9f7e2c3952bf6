import PyProof.Rows.All
import Wide.All
import OpenK.AllK
import Wide.FinOn
import HandS.ForMost
import HandS.ForExc
import HandS.Walk
import HandS.IsInst
import HandS.StrMore
import HandS.Flow
import HandS.Style
import HandS.RaiseMore
import HandS.TupLe
import HandS.Deep
import HandS.Replace
import KE.LtData
import HandS.Words
import HandS.WordsExc
import HandS.Ends
import HandS.Text
import HandS.ExcInit
import HandS.ExcField
import HandS.TryMany
import KE.KExcInit
import KE.KExcIs
import KE.KExcLine
import KE.RegKIsAll
import HandS.ExcIs
import OpenK.KCls
import KE.GoesMore
import PyProof.EnumMake
import PyProof.ListStr
import PySem.Challenge.RW_walkshome_k01_path_validation
set_option Elab.async false
set_option linter.all false
set_option maxRecDepth 100000
set_option maxHeartbeats 4000000
namespace Hx
open PySem PySem.Spec PyProof.Rows L2
/-! ## heaps -/
section
variable {H H1 H2 : Hp} {a p : Addr} {o u : HO} {K : PySem.W.Frag} {xs : List V}
theorem u_old (np : H p = none) (h : H a = some o) : upd H p u a = some o := by rw [upd_ne (ne_of_none h np)]; exact h
theorem u_oth (ne : a ≠ p) (h : H a = some o) : upd H p u a = some o := by rw [upd_ne ne]; exact h
theorem u_oth' (ne : p ≠ a) (h : H a = some o) : upd H p u a = some o := u_oth ne.symm h
theorem s_new (e : Same H H1) (np : H1 p = none) : Same H (upd H1 p u) := fun b x q => u_old np (e b x q)
theorem s_mut (e : Same H H1) (np : H p = none) : Same H (upd H1 p u) := fun b x q => by rw [upd_ne (ne_of_none q np)]; exact e b x q
theorem sq_of (h : H a = some (.lst xs)) : SqL K H a xs := .inl (.inl h)
theorem st_of (h : H a = some (.tup xs)) : SqT K H a xs := .inl (.inl h)
theorem sq_same (e : Same H H1) (h : SqL K H a xs) : SqL K H1 a xs := e.seq h
theorem sq_old (np : H p = none) (h : SqL K H a xs) : SqL K (upd H p u) a xs := (s_new (Same.refl H) np).seq h
theorem sq_oth (ne : a ≠ p) (h : SqL K H a xs) : SqL K (upd H p u) a xs := by
  rcases h with (h | ⟨o, h⟩) | h
  · exact .inl (.inl (u_oth ne h))
  · exact .inl (.inr ⟨o, u_oth ne h⟩)
  · exact .inr h
theorem f_same (e : Same H H1) (h : H1 p = none) : H p = none := e.free h
theorem f_upd (h : upd H p u a = none) : H a = none := by
  by_cases e : a = p
  · subst e; rw [upd_same] at h; cases h
  · rw [upd_ne e] at h; exact h
theorem n_upd (h : upd H p u a = none) : a ≠ p := fun e => by subst e; rw [upd_same] at h; cases h
theorem f_u2 {p2 : Addr} {u2 : HO} (h : upd (upd H p u) p2 u2 a = none) : H a = none := f_upd (f_upd h)
theorem f_u3 {p2 p3 : Addr} {u2 u3 : HO} (h : upd (upd (upd H p u) p2 u2) p3 u3 a = none) : H a = none := f_upd (f_u2 h)
theorem f_u4 {p2 p3 p4 : Addr} {u2 u3 u4 : HO} (h : upd (upd (upd (upd H p u) p2 u2) p3 u3) p4 u4 a = none) : H a = none := f_upd (f_u3 h)
theorem f_u5 {p2 p3 p4 p5 : Addr} {u2 u3 u4 u5 : HO} (h : upd (upd (upd (upd (upd H p u) p2 u2) p3 u3) p4 u4) p5 u5 a = none) : H a = none := f_upd (f_u4 h)
theorem f_u6 {p2 p3 p4 p5 p6 : Addr} {u2 u3 u4 u5 u6 : HO} (h : upd (upd (upd (upd (upd (upd H p u) p2 u2) p3 u3) p4 u4) p5 u5) p6 u6 a = none) : H a = none := f_upd (f_u5 h)
theorem n_u2 {p2 : Addr} {u2 : HO} (h : upd (upd H p u) p2 u2 a = none) : a ≠ p := fun e => by subst e; have := f_upd h; rw [upd_same] at this; cases this
theorem n_u3 {p2 p3 : Addr} {u2 u3 : HO} (h : upd (upd (upd H p u) p2 u2) p3 u3 a = none) : a ≠ p := n_u2 (f_upd h)
theorem n_u4 {p2 p3 p4 : Addr} {u2 u3 u4 : HO} (h : upd (upd (upd (upd H p u) p2 u2) p3 u3) p4 u4 a = none) : a ≠ p := n_u3 (f_upd h)
theorem n_u5 {p2 p3 p4 p5 : Addr} {u2 u3 u4 u5 : HO} (h : upd (upd (upd (upd (upd H p u) p2 u2) p3 u3) p4 u4) p5 u5 a = none) : a ≠ p := n_u4 (f_upd h)
theorem n_at (h : H p = some o) (n : H a = none) : a ≠ p := fun e => by rw [e, h] at n; cases n
theorem f_new (ne : a ≠ p) (h : H a = none) : upd H p u a = none := by rw [upd_ne ne]; exact h
/-- all but p is kept -/
def But (p : Addr) (H H' : Hp) : Prop := ∀ b o, b ≠ p → H b = some o → H' b = some o
theorem But.refl (p : Addr) (H : Hp) : But p H H := fun _ _ _ h => h
theorem But.of (e : Same H H1) : But p H H1 := fun b o _ h => e b o h
theorem But.trans (e : But p H H1) (f : But p H1 H2) : But p H H2 := fun b o n h => f b o n (e b o n h)
theorem But.new {q : Addr} (e : But p H H1) (nq : H1 q = none) : But p H (upd H1 q u) := fun b o n h => u_old nq (e b o n h)
theorem But.mut {q : Addr} (e : But p H H1) (nq : H q = none) : But p H (upd H1 q u) := fun b o n h => by rw [upd_ne (ne_of_none h nq)]; exact e b o n h
theorem But.own (e : But p H H1) : But p H (upd H1 p u) := fun b o n h => by rw [upd_ne n]; exact e b o n h
theorem But.seq (e : But p H H1) (n : a ≠ p) (h : SqL K H a xs) : SqL K H1 a xs := by
  rcases h with (h | ⟨o, h⟩) | h
  · exact .inl (.inl (e _ _ n h))
  · exact .inl (.inr ⟨o, e _ _ n h⟩)
  · exact .inr h
/-- behind But p, what was p's is new: But p becomes Same where p is new -/
theorem But.same (e : But p H1 H2) (f : Same H H1) (np : H p = none) : Same H H2 := fun b o h => e b o (ne_of_none h np) (f b o h)
theorem But.free (e : But p H H1) {b : Addr} (n : b ≠ p) (h : H1 b = none) : H b = none := by
  cases q : H b with
  | none => rfl
  | some o => rw [e b o n q] at h; cases h
end
/-! ## readings -/
section
variable {σ : L2.St} {H : Hp} {Q : VK} {v x y z : V} {ta tb te tc : TE} {D : Ends} {t u : TS} {c d : TT} {K : PySem.W.Frag} {p a : Addr} {i j : Int} {k : Nat} {xs : List V} {B : Bool → Hp → Prop} {QA : List V → Hp → Prop} {r : R2}
theorem g_var (e : σ[k]? = some (some v)) (q : Q v H) : tVar k σ H Q := ⟨v, e, q⟩
theorem g_c (q : Q v H) : tC v σ H Q := q
theorem g_op (q : ta σ H fun x H1 => tb σ H1 fun y H2 => r x y H2 Q) : tOp r ta tb σ H Q := q
theorem g_un {r : V → Hp → VK → Prop} (q : ta σ H fun x H1 => r x H1 Q) : tUn r ta σ H Q := q
theorem g_seq (q : t { D with nx := u D } σ H) : tSeq t u D σ H := q
theorem g_next (q : D.nx σ H) : tNext D σ H := q
theorem g_brk (q : D.bk σ H) : tBreak D σ H := q
theorem g_cont (q : D.ct σ H) : tCont D σ H := q
theorem g_asg {g : TG} (q : te σ H fun x H1 => g x σ H1 D.nx) : tAsg te g D σ H := q
theorem g_name {Q : L2.St → Hp → Prop} (q : Q (σ.set k (some v)) H) : gName k v σ H Q := q
theorem g_drop (q : te σ H fun _ H1 => D.nx σ H1) : tDrop te D σ H := q
theorem g_ret (q : te σ H D.rt) : tRet te D σ H := q
theorem g_retN (q : D.rt .non H) : tRetN D σ H := q
theorem g_ifS (q : c σ H fun b H1 => if b = true then t D σ H1 else u D σ H1) : tIfS c t u D σ H := q
theorem g_if (q : c σ H fun b H1 => if b = true then ta σ H1 Q else tb σ H1 Q) : tIf c ta tb σ H Q := q
theorem g_test (q : te σ H fun x H' => ∃ k, x = .bl k ∧ B k H') : tTest te σ H B := q
theorem g_tB (q : te σ H fun x H' => ∃ k, x = .bl k ∧ B k H') : tB te σ H B := q
theorem g_exb {b : Bool} {P : Bool → Prop} (q : P b) : ∃ k, V.bl b = .bl k ∧ P k := ⟨b, rfl, q⟩
theorem g_and (q : c σ H fun b H1 => if b = true then d σ H1 B else B false H1) : tAnd c d σ H B := q
theorem g_or (q : c σ H fun b H1 => if b = true then B true H1 else d σ H1 B) : tOr c d σ H B := q
theorem g_not (q : c σ H fun b H1 => B (!b) H1) : tNot c σ H B := q
theorem g_andV (q : ta σ H fun x H1 => ∃ c, x = .bl c ∧ if c = true then tb σ H1 Q else Q (.bl false) H1) : tAndV ta tb σ H Q := q
theorem g_orV (q : ta σ H fun x H1 => ∃ c, x = .bl c ∧ if c = true then Q (.bl true) H1 else tb σ H1 Q) : tOrV ta tb σ H Q := q
theorem g_notV (q : ta σ H fun x H1 => ∃ c, x = .bl c ∧ Q (.bl (!c)) H1) : tNotV ta σ H Q := q
theorem g_nil (q : QA [] H) : tNil σ H QA := q
theorem g_cons {tr : TA} (q : ta σ H fun x H1 => tr σ H1 fun xs H2 => QA (x :: xs) H2) : tCons ta tr σ H QA := q
theorem g_tup {t : TA} (q : t σ H fun xs H1 => xs.length ≤ sizeLine ∧ ∀ p, H1 p = none → Q (.ref p) (upd H1 p (.tup xs))) : tTup t σ H Q := q
theorem g_lst {t : TA} (q : t σ H fun xs H1 => xs.length ≤ sizeLine ∧ ∀ p, H1 p = none → Q (.ref p) (upd H1 p (.lst xs))) : tLst t σ H Q := q
theorem g_sz {R : Prop} (h : xs.length ≤ 1000) (q : R) : xs.length ≤ sizeLine ∧ R := ⟨Nat.le_trans h (by decide), q⟩
theorem g_call {sp : Sp} {dvs : List V} {E : XK} {t : TA} (q : t σ H fun vs H1 => sp (vs ++ dvs) H1 Q E) : tCall sp dvs E t σ H Q := q
theorem g_callK {sp : Sp} {gV} {E : XK} {t tk : TA} (q : t σ H fun vs H1 => tk σ H1 fun zs H2 => sp (gV vs zs) H2 Q E) : tCallK sp gV E t tk σ H Q := q
theorem g_CB {r : List V → Hp → VK → Prop} {t : TA} (q : t σ H fun vs H1 => r vs H1 Q) : tCB r t σ H Q := q
theorem g_chain {r r' : R2} (q : ta σ H fun x H1 => tb σ H1 fun y H2 => r x y H2 fun z H3 => ∃ k, z = .bl k ∧ (if k = true then tc σ H3 fun w' H4 => r' y w' H4 Q else Q (.bl false) H3)) : tChain r r' ta tb tc σ H Q := q
theorem g_sl {r} {tl th : TO} (q : te σ H fun x H1 => tl σ H1 fun l H2 => th σ H2 fun u H3 => r x l u H3 Q) : tSl r te tl th σ H Q := q
theorem g_nopart {QO : Option Int → Hp → Prop} (q : QO none H) : tNoPart σ H QO := q
theorem g_part {QO : Option Int → Hp → Prop} (q : te σ H fun x H1 => ∃ i, x = .int i ∧ QO (some i) H1) : tPart te σ H QO := q
theorem g_exi {P : Int → Prop} (q : P i) : ∃ k, V.int i = .int k ∧ P k := ⟨i, rfl, q⟩
theorem g_bm {T : String} {r} {to : TE} {t : TA} (q : to σ H fun x H1 => tyV K T x H1 ∧ t σ H1 fun xs H2 => r x xs H2 Q) : tBM K T r to t σ H Q := q
theorem g_bm0 {T : String} {r} {to : TE} (q : to σ H fun x H1 => tyV K T x H1 ∧ r x [] H1 Q) : tBM0 K T r to σ H Q := q
theorem g_m0 {r} {to : TE} (q : to σ H fun x H1 => (∃ a, x = .str a) ∧ r x [] H1 Q) : tM0 r to σ H Q := q
theorem g_m1 {r} {to te : TE} (q : to σ H fun x H1 => (∃ a, x = .str a) ∧ te σ H1 fun y H2 => r x [y] H2 Q) : tM1 r to te σ H Q := q
theorem g_exs {s : Str} {R : Prop} (q : R) : (∃ a, V.str s = .str a) ∧ R := ⟨⟨s, rfl⟩, q⟩
theorem g_tyS {s : Str} {R : Prop} (q : R) : tyV K "str" (.str s) H ∧ R := ⟨rfl, q⟩
theorem g_tyL {R : Prop} (h : SqL K H p xs) (q : R) : tyV K "list" (.ref p) H ∧ R := ⟨Or.inl ⟨rfl, _, h⟩, q⟩
theorem g_fld {f : Str} (q : ta σ H fun x H1 => ∃ a C dx fs v, x = .ref a ∧ H1 a = some (.ins C dx fs) ∧ Cls K C ∧ NoAttr K C f ∧ fs.lookup f = some v ∧ Q v H1) : tFld K ta f σ H Q := q
theorem g_meth {C : Addr} {m : Str} {sp : Sp} {dvs : List V} {E : XK} {t : TA} (q : ta σ H fun x H1 => ∃ a dx fs, x = .ref a ∧ H1 a = some (.ins C dx fs) ∧ fs.lookup m = none ∧ t σ H1 fun vs H2 => sp (x :: (vs ++ dvs)) H2 Q E) : tMeth C m sp dvs E ta t σ H Q := q
theorem g_for {wi : TI} {g : TG} {tb : TS} (q : wi σ H fun J H1 => ∃ W : Nat → Nat → L2.St → Hp → Prop, (∃ m, W 0 m σ H1) ∧ ∀ i m σ H, W i m σ H →
      (J.stop i H ∧ D.nx σ H) ∨ (J.go i H ∧ ∃ N : L2.St → Hp → Prop, (∀ σ' H', N σ' H' → ∃ m', m' < m ∧ W (i + 1) m' σ' H') ∧ ∀ x H', J.yld i H x H' → g x σ H' fun σ2 H2 => tb { D with nx := N, ct := N, bk := D.nx } σ2 H2)) : tFor wi g tb D σ H := q
theorem g_lc {wi : TI} {g : TG} {tt : TT} {vs : List Nat} (q : wi σ H fun J H1 => ∀ D, H1 D = none → ∃ W : Nat → Nat → Hp → Prop, (∃ m, W 0 m (upd H1 D (.lst []))) ∧ ∀ i m H, W i m H →
  (J.stop i H ∧ Q (.ref D) H) ∨ (J.go i H ∧ ∃ Nx : Hp → Prop, (∀ H', Nx H' → ∃ m', m' < m ∧ W (i + 1) m' H') ∧ ∀ x H', J.yld i H x H' → g x (wipe σ vs) H' fun σ2 H2 => wipe σ2 vs = wipe σ vs ∧ tt σ2 H2 fun b H3 =>
    if b = true then te σ2 H3 fun y H4 => ∃ acc, H4 D = some (.lst acc) ∧ acc.length < sizeLine ∧ Nx (upd H4 D (.lst (acc ++ [y]))) else Nx H3)) : tLc wi g tt te vs σ H Q := q
theorem g_yes {P : Bool → Hp → Prop} (q : P true H) : tYes σ H P := q
theorem g_aug {ti : TIp} (e : σ[k]? = some (some x)) (q : te σ H fun y H1 => ti x y H1 fun z H2 => D.nx (σ.set k (some z)) H2) : tAug k te ti D σ H := ⟨x, e, q⟩
theorem g_ipI {f : Int → Int → Int} (q : Q (.int (f i j)) H) : ipI f (.int i) (.int j) H Q := ⟨i, j, rfl, rfl, q⟩
/-! sources -/
variable {R : It → Hp → Prop}
theorem g_iList (q : ta σ H fun x H1 => ∃ a, x = .ref a ∧ (∃ xs, SqL K H1 a xs) ∧ R (Itl K a) H1) : iList K ta σ H R := q
theorem g_srcL {P : Addr → Prop} (h : SqL K H a xs) (q : P a) : ∃ a', V.ref a = .ref a' ∧ (∃ xs, SqL K H a' xs) ∧ P a' := ⟨a, rfl, ⟨xs, h⟩, q⟩
theorem g_iStr (q : ta σ H fun v H1 => ∃ x, v = .str x ∧ R (Its x) H1) : iStr ta σ H R := q
theorem g_exstr {s : Str} {P : Str → Prop} (q : P s) : ∃ x, V.str s = .str x ∧ P x := ⟨s, rfl, q⟩
theorem g_iRng1 {t : TA} (q : t σ H fun vs H1 => ∃ j : Int, vs = [.int j] ∧ -(2 ^ 62) ≤ j ∧ j < 2 ^ 62 ∧ R (Itr 0 j.toNat) H1) : iRng1 t σ H R := q
theorem g_srcR {j : Int} {P : Int → Prop} (h : -1000000000 ≤ j ∧ j ≤ 1000000000) (q : P j) : ∃ j' : Int, [V.int j] = [.int j'] ∧ -(2 ^ 62) ≤ j' ∧ j' < 2 ^ 62 ∧ P j' := ⟨j, rfl, by omega, by omega, q⟩
/-! ## operators by values -/
theorem g_rI0 {g : Int → Int → V} (q : Q (g i j) H) : rI0 g (.int i) (.int j) H Q := ⟨i, j, rfl, rfl, q⟩
theorem g_rU {g : Int → V} (q : Q (g i) H) : rU g (.int i) H Q := ⟨i, rfl, q⟩
theorem g_rI {C : Int → Int → Prop} {g : Int → Int → V} (c : C i j) (q : Q (g i j) H) : rI C g (.int i) (.int j) H Q := ⟨i, j, rfl, rfl, c, q⟩
def rAddU : R2 := fun x y H Q => rI0 (fun i j => .int (i + j)) x y H Q ∨ ((∃ i j, x = .str i ∧ y = .str j ∧ i.length + j.length ≤ sizeLine ∧ Q (.str (i ++ j)) H) ∨ rCat x y H Q)
theorem op_addU {X : Cx} : OpR X (binaryOp .Add) rAddU := op_add.or (op_add_str.or op_cat)
theorem g_addI (q : Q (.int (i + j)) H) : rAddU (.int i) (.int j) H Q := .inl ⟨i, j, rfl, rfl, q⟩
theorem g_addS {a b : Str} (h : a.length + b.length ≤ sizeLine) (q : Q (.str (a ++ b)) H) : rAddU (.str a) (.str b) H Q := .inr (.inl ⟨a, b, rfl, rfl, h, q⟩)
theorem g_addL {l b : Addr} {xs zs : List V} (h1 : H l = some (.lst xs)) (h2 : H b = some (.lst zs)) (h : xs.length + zs.length ≤ sizeLine) (q : ∀ p, H p = none → Q (.ref p) (upd H p (.lst (xs ++ zs)))) : rAddU (.ref l) (.ref b) H Q :=
  .inr (.inr ⟨l, b, xs, zs, rfl, rfl, h1, h2, h, q⟩)
theorem g_mul (c : CMul i j) (q : Q (.int (i * j)) H) : rI CMul (fun i j => .int (i * j)) (.int i) (.int j) H Q := ⟨i, j, rfl, rfl, c, q⟩
theorem g_mod (c : 0 < j) (q : Q (.int (i % j)) H) : rI (fun _ j => 0 < j) (fun i j => .int (i % j)) (.int i) (.int j) H Q := ⟨i, j, rfl, rfl, c, q⟩
theorem g_div (c : CDiv i j) (q : Q (.int (i / j)) H) : rI CDiv (fun i j => .int (i / j)) (.int i) (.int j) H Q := ⟨i, j, rfl, rfl, c, q⟩
theorem g_pow (c : CPow i j) (q : Q (.int (i ^ j.toNat)) H) : rI CPow (fun i j => .int (i ^ j.toNat)) (.int i) (.int j) H Q := ⟨i, j, rfl, rfl, c, q⟩
theorem g_eqS (h : scal x y = true) (q : Q (.bl (decide (x = y))) H) : rEq x y H Q := ⟨h, q⟩
theorem g_neS (h : scal x y = true) (q : Q (.bl (!decide (x = y))) H) : rNe x y H Q := ⟨h, q⟩
/-! items: a list, a tuple, a text -/
theorem g_ixL (h : SqL K H p xs) (e : atI xs i = some v) (q : Q v H) : rIx K (.ref p) (.int i) H Q := .inl ⟨p, xs, i, v, rfl, rfl, h, e, q⟩
theorem g_ixT (h : SqT K H p xs) (e : atI xs i = some v) (q : Q v H) : rIx K (.ref p) (.int i) H Q := .inr (.inl ⟨p, xs, i, v, rfl, rfl, h, e, q⟩)
theorem g_ixS {s : Str} {n : Nat} (hl : s.length ≤ sizeLine) (e : atI s.cps.toList i = some n) (q : Q (.str ⟨#[n]⟩) H) : rIx K (.str s) (.int i) H Q := .inr (.inr ⟨s, i, n, rfl, rfl, hl, e, q⟩)
/-! slices: a list, a text -/
def rSlU (K : PySem.W.Frag) : V → Option Int → Option Int → Hp → VK → Prop := fun x lo hi H Q => rSlL K x lo hi H Q ∨ rSlS x lo hi H Q
theorem sl_U {X : Cx} : SlR X (rSlU X.K) := sl_list.or sl_str
theorem g_slL {lo hi : Option Int} (h : SqL K H a xs) (q : ∀ p, H p = none → Q (.ref p) (upd H p (.lst (cutV xs lo hi)))) : rSlU K (.ref a) lo hi H Q := .inl ⟨a, xs, rfl, h, q⟩
theorem g_slS {lo hi : Option Int} {z : Str} (h : z.length ≤ sizeLine) (q : Q (.str (cutS z lo hi)) H) : rSlU K (.str z) lo hi H Q := .inr ⟨z, rfl, h, q⟩
/-! tests -/
theorem g_nT {A B : Prop} (q : B) : if (!true) = true then A else B := q
theorem g_nF {A B : Prop} (q : A) : if (!false) = true then A else B := q
theorem g_yesD {P : Prop} [Decidable P] {A B : Prop} (h : P) (q : A) : if decide P = true then A else B := by rw [if_pos (decide_eq_true h)]; exact q
theorem g_noD {P : Prop} [Decidable P] {A B : Prop} (h : ¬P) (q : B) : if decide P = true then A else B := by rw [if_neg (by simp [h])]; exact q
theorem g_byD {P : Prop} [Decidable P] {A B : Prop} (h1 : P → A) (h2 : ¬P → B) : if decide P = true then A else B := by
  by_cases h : P
  · exact g_yesD h (h1 h)
  · exact g_noD h (h2 h)
theorem g_byN {P : Prop} [Decidable P] {A B : Prop} (h1 : ¬P → A) (h2 : P → B) : if (!decide P) = true then A else B := by
  by_cases h : P
  · rw [if_neg (by simp [h])]; exact h2 h
  · rw [if_pos (by simp [h])]; exact h1 h
theorem g_by {b : Bool} {A B : Prop} (h1 : b = true → A) (h2 : b = false → B) : if b = true then A else B := by
  cases b
  · exact iteF (h2 rfl)
  · exact iteT (h1 rfl)
end
end Hx
namespace Hx
open PySem PySem.Spec PyProof.Rows L2
/-! ## further rules -/
section
variable {X : Cx} {σ : L2.St} {H : Hp} {Q : VK} {K : PySem.W.Frag} {v x y : V} {p a b : Addr} {i j : Int} {xs ys : List V} {z : Str}
theorem pe_gS {n s : Str} {pos : Pos} (h : ∃ t, X.mg n = some (.str s t)) (hg : Gl X n := by rfl) (hd : (n == ("__debug__" : Str)) = false := by decide) : PE X (.Name n pos) (tC (.str s)) := by
  obtain ⟨t, h⟩ := h
  exact pe_glob hg h ⟨t, rfl⟩ hd
theorem pe_gI {n : Str} {i : Int} {pos : Pos} (h : ∃ t, X.mg n = some (.int i t)) (hg : Gl X n := by rfl) (hd : (n == ("__debug__" : Str)) = false := by decide) : PE X (.Name n pos) (tC (.int i)) := by
  obtain ⟨t, h⟩ := h
  exact pe_glob hg h ⟨t, rfl⟩ hd
/-! len -/
def rLenU (K : PySem.W.Frag) : List V → Hp → VK → Prop := fun xs H Q => ∃ x n, xs = [x] ∧ LenV K x H n ∧ Q (.int n) H
theorem call_lenU : CallR X (.builtin "len") (rLenU X.K) := call_len
theorem g_lenS (h : z.length ≤ sizeLine) (q : Q (.int (z.length : Nat)) H) : rLenU K [.str z] H Q := ⟨.str z, _, rfl, ⟨h, rfl⟩, q⟩
theorem g_lenL (h : SqL K H a xs) (q : Q (.int (xs.length : Nat)) H) : rLenU K [.ref a] H Q := ⟨.ref a, _, rfl, .inl ⟨_, h, rfl⟩, q⟩
theorem g_lenT (h : SqT K H a xs) (q : Q (.int (xs.length : Nat)) H) : rLenU K [.ref a] H Q := ⟨.ref a, _, rfl, .inr ⟨_, h, rfl⟩, q⟩
/-! max, min of two ints, all, any -/
def rMaxU (K : PySem.W.Frag) : List V → Hp → VK → Prop := fun xs H Q => (∃ i j, xs = [.int i, .int j] ∧ Q (.int (if j > i then j else i)) H) ∨ rMax K xs H Q
theorem call_maxU (hc : X.calm = true) : CallR X (.builtin "max") (rMaxU X.K) := (call_max2 hc).or (cr_max hc)
theorem g_max2 (q : Q (.int (max i j)) H) : rMaxU K [.int i, .int j] H Q := .inl ⟨i, j, rfl, by
  have e : (if j > i then j else i) = max i j := by split <;> omega
  rw [e]; exact q⟩
def rMinU (K : PySem.W.Frag) : List V → Hp → VK → Prop := fun xs H Q => (∃ i j, xs = [.int i, .int j] ∧ Q (.int (if j < i then j else i)) H) ∨ rMin K xs H Q
theorem call_minU (hc : X.calm = true) : CallR X (.builtin "min") (rMinU X.K) := (call_min2 hc).or (cr_min hc)
theorem g_min2 (q : Q (.int (min i j)) H) : rMinU K [.int i, .int j] H Q := .inl ⟨i, j, rfl, by
  have e : (if j < i then j else i) = min i j := by split <;> omega
  rw [e]; exact q⟩
def rInt1 : List V → Hp → VK → Prop := fun xs H Q => (∃ i, xs = [.int i] ∧ Q (.int i) H) ∨ ∃ k, xs = [.bl k] ∧ Q (.int (if k then 1 else 0)) H
theorem call_int1U : CallR X (.type "int") rInt1 := call_int1
theorem g_intB {k : Bool} (q : Q (.int (if k then 1 else 0)) H) : rInt1 [.bl k] H Q := .inr ⟨k, rfl, q⟩
theorem g_all {bs : List Bool} (h : SqL K H a (bs.map V.bl)) (q : Q (.bl (bs.all id)) H) : rAll K [.ref a] H Q := ⟨a, bs, rfl, h, q⟩
theorem g_any {bs : List Bool} (h : SqL K H a (bs.map V.bl)) (q : Q (.bl (bs.any id)) H) : rAny K [.ref a] H Q := ⟨a, bs, rfl, h, q⟩
/-! isinstance -/
def rIsiU (K : PySem.W.Frag) : List V → Hp → VK → Prop := fun xs H Q => rIsi K xs H Q ∨ rIsiT K xs H Q
theorem call_isiU : CallR X (.builtin "isinstance") (rIsiU X.K) := call_isi.or call_isiT
theorem g_isi {c : V} {t u : Value} {k : Bool} (hc : ClsV c u) (ht : TyX K H x t) (e : PySem.W.kitOne K t u = some k) (q : Q (.bl k) H) : rIsiU K [x, c] H Q := .inl ⟨x, c, t, u, k, rfl, hc, ht, e, q⟩
theorem g_isiT {cs : List V} {t : Value} {us : List Value} {k : Bool} (h : H p = some (.tup cs)) (hc : Paired ClsV cs us) (ht : TyX K H x t) (e : PySem.W.kitAny K t us = some k) (q : Q (.bl k) H) : rIsiU K [x, .ref p] H Q := .inr ⟨x, p, cs, t, us, k, rfl, h, hc, ht, e, q⟩
/-! repr of an int, a bool -/
def rReprU : List V → Hp → VK → Prop := fun xs H Q => (∃ i, xs = [.int i] ∧ i.natAbs.log2 < 1920 ∧ Q (.str (toString i)) H) ∨ ∃ k : Bool, xs = [.bl k] ∧ Q (.str (if k then "True" else "False")) H
theorem call_repr_bool : CallR X (.builtin "repr") (fun xs H Q => ∃ k : Bool, xs = [.bl k] ∧ Q (.str (if k then "True" else "False")) H) := by
  intro pins s σ H xs us Q I r h
  obtain ⟨k, rfl, q⟩ := h
  obtain ⟨u, rfl, ru⟩ := vals1 r
  cases (show u = Value.bool k from ru)
  exact PySem.P.repr_of_bool ⟨.str _, H, I.tok _, ⟨_, rfl⟩, q⟩
theorem call_reprU : CallR X (.builtin "repr") rReprU := SkE.call_repr_int.or call_repr_bool
theorem g_reprB {k : Bool} (q : Q (.str (if k then "True" else "False")) H) : rReprU [.bl k] H Q := .inr ⟨k, rfl, q⟩
/-! == and <, of any data -/
def rEqU (K : PySem.W.Frag) : R2 := fun x y H Q => rEq x y H Q ∨ rEqD K x y H Q
theorem op_eqU (hu : X.A.units + 64 < cLine) : OpR X (compareOp .Eq) (rEqU X.K) := op_eq.or (op_eqD hu)
def rNeU (K : PySem.W.Frag) : R2 := fun x y H Q => rNe x y H Q ∨ rNeD K x y H Q
theorem op_neU (hu : X.A.units + 64 < cLine) : OpR X (compareOp .NotEq) (rNeU X.K) := op_ne.or (op_neD hu)
theorem g_eqU (h : scal x y = true) (q : Q (.bl (decide (x = y))) H) : rEqU K x y H Q := .inl ⟨h, q⟩
theorem g_neU (h : scal x y = true) (q : Q (.bl (!decide (x = y))) H) : rNeU K x y H Q := .inl ⟨h, q⟩
theorem g_eqI (q : Q (.bl (decide (i = j))) H) : rEqU K (.int i) (.int j) H Q := .inl ⟨rfl, by rw [decide_eq_decide.mpr (show V.int i = V.int j ↔ i = j from ⟨V.int.inj, congrArg _⟩)]; exact q⟩
theorem g_neI (q : Q (.bl (!decide (i = j))) H) : rNeU K (.int i) (.int j) H Q := .inl ⟨rfl, by rw [decide_eq_decide.mpr (show V.int i = V.int j ↔ i = j from ⟨V.int.inj, congrArg _⟩)]; exact q⟩
theorem g_eqS2 {s z : Str} (q : Q (.bl (decide (s = z))) H) : rEqU K (.str s) (.str z) H Q := .inl ⟨rfl, by rw [decide_eq_decide.mpr (show V.str s = V.str z ↔ s = z from ⟨V.str.inj, congrArg _⟩)]; exact q⟩
theorem g_neS2 {s z : Str} (q : Q (.bl (!decide (s = z))) H) : rNeU K (.str s) (.str z) H Q := .inl ⟨rfl, by rw [decide_eq_decide.mpr (show V.str s = V.str z ↔ s = z from ⟨V.str.inj, congrArg _⟩)]; exact q⟩
theorem g_eqB {s z : Bool} (q : Q (.bl (decide (s = z))) H) : rEqU K (.bl s) (.bl z) H Q := .inl ⟨rfl, by rw [decide_eq_decide.mpr (show V.bl s = V.bl z ↔ s = z from ⟨V.bl.inj, congrArg _⟩)]; exact q⟩
theorem g_neB {s z : Bool} (q : Q (.bl (!decide (s = z))) H) : rNeU K (.bl s) (.bl z) H Q := .inl ⟨rfl, by rw [decide_eq_decide.mpr (show V.bl s = V.bl z ↔ s = z from ⟨V.bl.inj, congrArg _⟩)]; exact q⟩
theorem g_eqD {d e : PyData} (hd : Dp K H x d) (he : Dp K H y e) (sd : SeqAt.shaped d = true) (se : SeqAt.shaped e = true) (q : Q (.bl (PyData.eqv d e)) H) : rEqU K x y H Q := .inr ⟨d, e, hd, he, sd, se, q⟩
theorem g_neD {d e : PyData} (hd : Dp K H x d) (he : Dp K H y e) (sd : SeqAt.shaped d = true) (se : SeqAt.shaped e = true) (q : Q (.bl (!PyData.eqv d e)) H) : rNeU K x y H Q := .inr ⟨d, e, hd, he, sd, se, q⟩
def rLtD (K : PySem.W.Frag) : R2 := fun x y H Q => ∃ d e, Dp K H x d ∧ Dp K H y e ∧ PySem.W.alike d e = true ∧ d ≠ .none ∧ d.depth ≤ 60 ∧ Q (.bl (PySem.W.dataLt d e)) H
theorem op_ltD (hu : X.A.units + 64 < cLine) : OpR X (compareOp .Lt) (rLtD X.K) := by
  intro pins s σ H x y v u Q I rx ry h
  obtain ⟨d, e, hd, he, al, nn, dp, q⟩ := h
  obtain ⟨as, r1⟩ := Dp.reads I d x v hd rx
  obtain ⟨bs, r2⟩ := Dp.reads I e y u he ry
  exact PySem.W.rcLt_alike d e _ _ _ _ _ _ r1 r2 al nn (by omega) _ _ _ _ ⟨.bl _, H, I, rfl, q⟩
def rLtU (K : PySem.W.Frag) : R2 := fun x y H Q => rI0 (fun i j => .bl (decide (i < j))) x y H Q ∨ rLtD K x y H Q
theorem op_ltU (hu : X.A.units + 64 < cLine) : OpR X (compareOp .Lt) (rLtU X.K) := op_lt.or (op_ltD hu)
theorem g_ltI (q : Q (.bl (decide (i < j))) H) : rLtU K (.int i) (.int j) H Q := .inl ⟨i, j, rfl, rfl, q⟩
theorem g_ltD {d e : PyData} (hd : Dp K H x d) (he : Dp K H y e) (al : PySem.W.alike d e = true) (nn : d ≠ .none) (dp : d.depth ≤ 60) (q : Q (.bl (PySem.W.dataLt d e)) H) : rLtU K x y H Q := .inr ⟨d, e, hd, he, al, nn, dp, q⟩
/-! texts -/
theorem g_inS {c : Nat} {z : Str} (q : Q (.bl (decide (c ∈ z.cps.toList))) H) : (∃ (c' : Nat) (z' : Str), V.str ⟨#[c]⟩ = .str ⟨#[c']⟩ ∧ V.str z = .str z' ∧ Q (.bl (decide (c' ∈ z'.cps.toList))) H) := ⟨c, z, rfl, rfl, q⟩
theorem mt_swapcase : MtR X "str.swapcase" (fun x xs H Q => ∃ a, x = .str a ∧ xs = [] ∧ a.length ≤ 5592405 ∧ Q (.str (Txt.swapcase a)) H) :=
  mt0 (C := fun a => a.length ≤ 5592405) (g := fun a => .str (Txt.swapcase a)) fun a _ s _ hc h =>
    PySem.SC.swapcase (PyProof.Rows.short24 (by have h1 : a.length ≤ 5592405 := hc; have := PyProof.Rows.len_swapcase a; omega)) (h _ (s.toks + 1) ⟨_, rfl⟩)
theorem g_m0c {g : Str → V} {C : Str → Prop} (hc : C z) (q : Q (g z) H) : ∃ a, V.str z = .str a ∧ ([] : List V) = [] ∧ C a ∧ Q (g a) H := ⟨z, rfl, rfl, hc, q⟩
theorem g_join {p : Addr} {l : List Str} (h : SqL K H p (l.map V.str)) (hz : (l.map (·.length)).sum + l.length * z.length ≤ 16777216) (q : Q (.str (Txt.join z l)) H) :
    ∃ a p', ∃ ys : List Str, V.str z = .str a ∧ [V.ref p] = [.ref p'] ∧ (SqL K H p' (ys.map V.str) ∨ SqT K H p' (ys.map V.str)) ∧ (ys.map (·.length)).sum + ys.length * a.length ≤ 16777216 ∧ Q (.str (Txt.join a ys)) H :=
  ⟨z, p, l, rfl, rfl, .inl h, hz, q⟩
/-! keywords alone -/
theorem pe_callK0 {CX : CXT} {k : Nat} {f : Addr} {fd : FuncData} {ps ks : List Str} {sp : Sp} {E : XK} {x : Str} {p pos : Pos} {kws : List Keyword} {tk : TA} {g : List Value → List Value → List Value} {gV : List V → List V → List V}
    (F : FnOk X.prog X.w X.K X.mg X.base CX k f fd ps sp) (hr : Room k X.A) (hg : Gl X x) (hm : X.mg x = some (.ref f)) (hk : PySem.W.keepIn X.K (.ref f) = true) (hb : KBinds X.K fd ps ks g gV) (hx : Passes CX X E)
    (hkw : PK X kws tk) (hall : (backToKw pos (keywordEach kws X.env)).all (·.1.isSome) = true := by rfl) (hks : (backToKw pos (keywordEach kws X.env)).filterMap (·.1) = ks := by rfl)
    (hdb : (x == ("__debug__" : Str)) = false := by decide)
    (hpl : ((backTo pos (starEach [] X.env)).any (·.1) || (backToKw pos (keywordEach kws X.env)).any (·.1.isNone)) = false := by rfl) :
    PE X (.Call (.Name x p) [] kws pos) (tCallK sp gV E tNil tk) := by
  refine ⟨fun pins s σ H Q I h => ?_⟩
  refine wpAny_Call_Name_kw (ld_glob I hg hm ?_ hdb)
  refine PySem.W.callWith_KW0 (h₀ := X.base) I.ok.mod.kin hk hall ?_ hpl
  refine thn (hkw.run pos pins s σ H _ I h) fun ws s2 ⟨zs, H2, I2, rz, q2⟩ => ⟨I2.kIn, ?_⟩
  rw [hks]
  exact run_fnk F hr hb hx I2 .nil rz q2
/-! targets, sources -/
theorem g_gtup {n : Nat} {t : TGs} {P : L2.St → Hp → Prop} (h : SqT K H a xs) (hl : xs.length = n) (q : t xs σ H P) : gTup K n t (.ref a) σ H P := ⟨a, xs, rfl, h, hl, q⟩
theorem g_gcons {t : TG} {u : TGs} {P : L2.St → Hp → Prop} (q : t v σ H fun σ' H' => u xs σ' H' P) : gCons t u (v :: xs) σ H P := ⟨v, xs, rfl, q⟩
theorem g_gnil {P : L2.St → Hp → Prop} (q : P σ H) : gNil [] σ H P := ⟨rfl, q⟩
theorem g_gsub {to ti : TE} {t : TSet} {P : L2.St → Hp → Prop} (q : to σ H fun o H1 => ti σ H1 fun i H2 => t o i v H2 fun H3 => P σ H3) : gSub to ti t v σ H P := q
theorem g_setL {i : Nat} {P : Hp → Prop} (h : H p = some (.lst xs)) (hi : i < xs.length) (q : P (upd H p (.lst (xs.set i v)))) : rSetL (.ref p) (.int (i : Nat)) v H P :=
  ⟨p, xs, _, i, rfl, rfl, h, by unfold ixN; rw [if_pos (by omega), if_pos (by omega)]; simp, q⟩
/-! * : ints; a text by an int -/
theorem fold_app (l : List (Array Nat)) (a : Array Nat) : (l.foldl (· ++ ·) a).toList = a.toList ++ (l.map Array.toList).flatten := by
  induction l generalizing a with
  | nil => simp
  | cons x r ih => rw [List.foldl_cons, ih]; simp
def mulS (z : Str) (n : Nat) : Str := ⟨((List.replicate n z.cps.toList).flatten).toArray⟩
theorem op_mulS : OpR X (binaryOp .Mult) (fun x y H Q => ∃ (z : Str) (n : Nat), x = .str z ∧ y = .int (n : Nat) ∧ n ≤ 1000000 ∧ z.length * n ≤ 1000000 ∧ z.length ≤ 1000000 ∧ Q (.str (mulS z n)) H) := by
  intro pins s σ H x y v u Q I rx ry h
  obtain ⟨z, n, rfl, rfl, hn, hz, hz1, q⟩ := h
  obtain ⟨t, rfl⟩ := rx
  obtain ⟨t', rfl⟩ := ry
  refine PySem.P.mul_str (by simp; omega) (fun h1 h2 => ?_) (fun h1 h2 => PyProof.Rows.short24 (by rw [Int.toNat_natCast]; omega)) ?_
  · have h3 : (9223372036854775807 : Int) / 1000000 ≤ (2 ^ 63 - 1) / (n : Int) := by
      have : (0 : Int) < (n : Int) := by omega
      rw [Int.le_ediv_iff_mul_le this]
      have : (9223372036854775807 : Int) / 1000000 * (n : Int) ≤ 9223372036854775807 / 1000000 * 1000000 := Int.mul_le_mul_of_nonneg_left (by omega) (by decide)
      omega
    have h4 : ((9223372036854775807 : Int) / 1000000) = 9223372036854 := by decide
    omega
  · have e0 : n = 0 → mulS z n = Str.empty := fun e => by subst e; rfl
    by_cases h1 : (n : Int) < 1
    · rw [if_pos h1]
      have := e0 (by omega)
      exact ⟨by rw [sizeLine_eq]; decide, .str (mulS z n), H, I.tok _, ⟨_, by rw [this]⟩, q⟩
    · rw [if_neg h1]
      by_cases h2 : (((n : Int) == 1) || z.length == 0) = true
      · rw [if_pos h2]
        have e : mulS z n = z := by
          unfold mulS
          rcases (Bool.or_eq_true _ _).mp h2 with h3 | h3
          · have : n = 1 := by have := eq_of_beq h3; omega
            subst this
            simp
          · have h3 : z.cps.size = 0 := eq_of_beq h3
            have : z.cps.toList = [] := by
              rw [← List.length_eq_zero_iff, Array.length_toList]; exact h3
            rw [this]
            cases z with
            | mk c =>
              have : c = #[] := Array.toList_inj.mp this
              subst this
              simp
        exact ⟨.str (mulS z n), H, I, ⟨t, by rw [e]⟩, q⟩
      · rw [if_neg h2]
        have e : mulS z n = ⟨(List.replicate (n : Int).toNat z.cps).foldl (· ++ ·) #[]⟩ := by
          unfold mulS
          congr 1
          apply Array.toList_inj.mp
          rw [fold_app, Int.toNat_natCast, List.map_replicate]
          simp
        refine ⟨?_, .str (mulS z n), H, I.tok _, ⟨_, by rw [e]⟩, q⟩
        rw [← e, sizeLine_eq]
        show (mulS z n).cps.size ≤ _
        unfold mulS
        have h5 : z.cps.size * n ≤ 1000000 := hz
        simp only [List.size_toArray, List.length_flatten, List.map_replicate, List.sum_replicate_nat, Array.length_toList]
        rw [Nat.mul_comm]
        omega
def rMulS : R2 := fun x y H Q => ∃ (z : Str) (n : Nat), x = .str z ∧ y = .int (n : Nat) ∧ n ≤ 1000000 ∧ z.length * n ≤ 1000000 ∧ z.length ≤ 1000000 ∧ Q (.str (mulS z n)) H
def rMulU : R2 := fun x y H Q => rI CMul (fun i j => .int (i * j)) x y H Q ∨ (rMulS x y H Q ∨ rRep x y H Q)
theorem op_mulU : OpR X (binaryOp .Mult) rMulU := op_mul.or ((show OpR X (binaryOp .Mult) rMulS from op_mulS).or op_rep)
theorem g_mulI (c : CMul i j) (q : Q (.int (i * j)) H) : rMulU (.int i) (.int j) H Q := .inl ⟨i, j, rfl, rfl, c, q⟩
theorem g_mulS {n : Nat} (h1 : n ≤ 1000000) (h2 : z.length * n ≤ 1000000) (h3 : z.length ≤ 1000000) (q : Q (.str (mulS z n)) H) : rMulU (.str z) (.int (n : Nat)) H Q := .inr (.inl ⟨z, n, rfl, rfl, h1, h2, h3, q⟩)
theorem g_mulL {n : Nat} (h : H a = some (.lst xs)) (h1 : n ≤ 1000000) (h2 : xs.length * n ≤ 16000000) (q : ∀ p, H p = none → Q (.ref p) (upd H p (.lst (List.replicate n xs).flatten))) : rMulU (.ref a) (.int (n : Nat)) H Q :=
  .inr (.inr ⟨a, n, xs, rfl, rfl, h, by omega, by omega, by rw [sizeLine_eq, Int.toNat_natCast]; omega, q⟩)
/-! the same with the written part named -/
variable (hK : X.K = K)
include hK
theorem ix_seqK : IxR X (rIx K) := hK ▸ ix_seq
theorem sl_UK : SlR X (rSlU K) := hK ▸ sl_U
theorem op_eqUK (hu : X.A.units + 64 < cLine) : OpR X (compareOp .Eq) (rEqU K) := hK ▸ op_eqU hu
theorem op_neUK (hu : X.A.units + 64 < cLine) : OpR X (compareOp .NotEq) (rNeU K) := hK ▸ op_neU hu
theorem op_ltUK (hu : X.A.units + 64 < cLine) : OpR X (compareOp .Lt) (rLtU K) := hK ▸ op_ltU hu
theorem op_inK : OpR X (compareOp .In) (rIn K false) := hK ▸ op_in_seq
theorem op_notInK : OpR X (compareOp .NotIn) (rIn K true) := hK ▸ op_notIn_seq
theorem call_lenUK : CallR X (.builtin "len") (rLenU K) := hK ▸ call_lenU
theorem call_maxUK (hc : X.calm = true) : CallR X (.builtin "max") (rMaxU K) := hK ▸ call_maxU hc
theorem call_minUK (hc : X.calm = true) : CallR X (.builtin "min") (rMinU K) := hK ▸ call_minU hc
theorem call_allK (hc : X.calm = true) : CallR X (.builtin "all") (rAll K) := hK ▸ cr_all hc
theorem call_anyK (hc : X.calm = true) : CallR X (.builtin "any") (rAny K) := hK ▸ cr_any hc
theorem call_sumK (hc : X.calm = true) : CallR X (.builtin "sum") (rSum K) := hK ▸ cr_sum hc
theorem call_isiUK : CallR X (.builtin "isinstance") (rIsiU K) := hK ▸ call_isiU
def rJoin (K : PySem.W.Frag) : V → List V → Hp → VK → Prop := fun x xs H Q => ∃ a p, ∃ ys : List Str, x = .str a ∧ xs = [.ref p] ∧ (SqL K H p (ys.map V.str) ∨ SqT K H p (ys.map V.str)) ∧ (ys.map (·.length)).sum + ys.length * a.length ≤ 16777216 ∧ Q (.str (Txt.join a ys)) H
theorem mt_joinK : MtR X "str.join" (rJoin K) := hK ▸ mt_join
theorem pi_listK {tg l : Expr} {tl : TE} (hl : PE X l tl) : PI X tg l (iList K tl) := hK ▸ pi_list hl
theorem pg_tupK {es : List Expr} {k : Nat} {pos : Pos} {t : TGs} {n : Nat} (hc : X.calm = true) (h : PGs X es t)
    (hn : (assignEach es X.env).length = n := by rfl) (hst : (assignEach es X.env).findIdx? (·.1) = none := by rfl) : PG X (.Tuple es k pos) (gTup K n t) := hK ▸ pg_tup hc h hn hst
theorem pe_bmK {e : Expr} {to : TE} {t : TA} {T : String} {r : V → List V → Hp → VK → Prop} (h : PE X e (tBM X.K T r to t)) : PE X e (tBM K T r to t) := hK ▸ h
theorem pe_bm0K {e : Expr} {to : TE} {T : String} {r : V → List V → Hp → VK → Prop} (h : PE X e (tBM0 X.K T r to)) : PE X e (tBM0 K T r to) := hK ▸ h
theorem pe_fldK {e : Expr} {ta : TE} {f : Str} (h : PE X e (tFld X.K ta f)) : PE X e (tFld K ta f) := hK ▸ h
omit hK
theorem g_joinK {p : Addr} {l : List Str} (h : SqL K H p (l.map V.str)) (hz : (l.map (·.length)).sum + l.length * z.length ≤ 16777216) (q : Q (.str (Txt.join z l)) H) : rJoin K (.str z) [.ref p] H Q := ⟨z, p, l, rfl, rfl, .inl h, hz, q⟩
/-! any source: a list, a tuple, a text -/
def iAny (K : PySem.W.Frag) (te : TE) : TI := fun σ H R => te σ H fun x H1 => (∃ a, x = .ref a ∧ (∃ xs, SqL K H1 a xs) ∧ R (Itl K a) H1) ∨ (∃ a, x = .ref a ∧ (∃ xs, SqT K H1 a xs) ∧ R (Itt K a) H1) ∨ ∃ z, x = .str z ∧ R (Its z) H1
theorem pi_anyK {tg e : Expr} {te : TE} (hK : X.K = K) (he : PE X e te) : PI X tg e (iAny K te) := by
  subst hK
  constructor
  intro pins s σ H R I h
  refine thn (he.run pins s σ H _ I h) ?_
  rintro v s1 ⟨y, H1, I1, r1, w⟩
  rcases w with ⟨a, rfl, ⟨xs, hq⟩, q⟩ | ⟨a, rfl, ⟨xs, hq⟩, q⟩ | ⟨z, rfl, q⟩
  · cases r1
    obtain ⟨its, -, p, -⟩ := I1.list hq
    exact wpAny_pyIter_list p.isList (pi_one (tk := s1.toks) I1 _ (turn_list a _) ⟨_, Heap.get?_push_size _ rfl, rfl, rfl⟩ q)
  · cases r1
    obtain ⟨its, -, p, -⟩ := I1.tuple hq
    exact wpAny_pyIter_tuple (show s1.heap.IsTuple a its.toArray from p) (pi_one (tk := s1.toks) I1 _ (turn_tuple a _) ⟨_, Heap.get?_push_size _ rfl, rfl, rfl⟩ q)
  · obtain ⟨t, rfl⟩ := r1
    cases b : z.cps.all (· < 128) with
    | false => exact wpAny_pyIter_wide b (pi_one (tk := s1.toks) I1 _ (turn_str _ z t "str_iterator" (.inr rfl)) ⟨_, Heap.get?_push_size _ rfl, rfl, rfl⟩ q)
    | true => exact wpAny_pyIter_ascii b (pi_one (tk := s1.toks) I1 _ (turn_str _ z t "str_ascii_iterator" (.inl rfl)) ⟨_, Heap.get?_push_size _ rfl, rfl, rfl⟩ q)
theorem g_iAny {ta : TE} {R : It → Hp → Prop} (q : ta σ H fun x H1 => (∃ a, x = .ref a ∧ (∃ xs, SqL K H1 a xs) ∧ R (Itl K a) H1) ∨ (∃ a, x = .ref a ∧ (∃ xs, SqT K H1 a xs) ∧ R (Itt K a) H1) ∨ ∃ z, x = .str z ∧ R (Its z) H1) : iAny K ta σ H R := q
theorem g_anyL {P P2 : Addr → Prop} {P3 : Str → Prop} (h : SqL K H a xs) (q : P a) : (∃ a', V.ref a = .ref a' ∧ (∃ xs, SqL K H a' xs) ∧ P a') ∨ (∃ a', V.ref a = .ref a' ∧ (∃ xs, SqT K H a' xs) ∧ P2 a') ∨ ∃ z, V.ref a = .str z ∧ P3 z := .inl ⟨a, rfl, ⟨xs, h⟩, q⟩
theorem g_anyT {P P2 : Addr → Prop} {P3 : Str → Prop} (h : SqT K H a xs) (q : P2 a) : (∃ a', V.ref a = .ref a' ∧ (∃ xs, SqL K H a' xs) ∧ P a') ∨ (∃ a', V.ref a = .ref a' ∧ (∃ xs, SqT K H a' xs) ∧ P2 a') ∨ ∃ z, V.ref a = .str z ∧ P3 z := .inr (.inl ⟨a, rfl, ⟨xs, h⟩, q⟩)
theorem g_anyS {P P2 : Addr → Prop} {P3 : Str → Prop} (q : P3 z) : (∃ a', V.str z = .ref a' ∧ (∃ xs, SqL K H a' xs) ∧ P a') ∨ (∃ a', V.str z = .ref a' ∧ (∃ xs, SqT K H a' xs) ∧ P2 a') ∨ ∃ z', V.str z = .str z' ∧ P3 z' := .inr (.inr ⟨z, rfl, q⟩)
/-! x[::-1], a text -/
theorem rev_ix (n : Nat) : Builtin.Str.strSliceIndices none none (-1) n = (List.range n).reverse := by
  rw [← PySem.W.krv_range n, ← PySem.W.krv_sliceRange n]
  rfl
def tRevS (te : TE) : TE := fun σ H Q => te σ H fun x H1 => ∃ z, x = .str z ∧ z.length ≤ sizeLine ∧ Q (.str ⟨z.cps.toList.reverse.toArray⟩) H1
theorem pe_revS {e : Expr} {te : TE} {k : Nat} {p1 p2 p3 pos : Pos} (he : PE X e te) : PE X (.Subscript e (.Slice none none (some (.UnaryOp .USub (.Constant (.int 1) k p1) p2)) p3) pos) (tRevS te) := by
  constructor
  intro pins s σ H Q I h
  refine Subscript_ (thn (he.run pins s σ H _ I h) ?_)
  rintro v s1 ⟨x, H1, I1, r1, z, rfl, hz, q⟩
  obtain ⟨t, rfl⟩ := r1
  have hst : PO X (some (.UnaryOp .USub (.Constant (.int 1) k p1) p2)) (tPart (tUn (rU fun i => .int (-i)) (tC (.int 1)))) := po_some (pe_un un_neg pe_int)
  refine wpAny_Slice (thn (po_none.run pins s1 σ H1 (fun o H2 => o = none ∧ H2 = H1) I1 ⟨rfl, rfl⟩) ?_)
  rintro vl s2 ⟨l, H2, I2, pl, rfl, rfl⟩
  refine thn (po_none.run pins s2 σ H2 (fun o H3 => o = none ∧ H3 = H2) I2 ⟨rfl, rfl⟩) ?_
  rintro vu s3 ⟨u, H3, I3, pu, rfl, rfl⟩
  refine thn (hst.run pins s3 σ H3 (fun o H4 => o = some (-1) ∧ H4 = H3) I3 ⟨1, rfl, -1, rfl, rfl, rfl⟩) ?_
  rintro vs s4 ⟨o, H4, I4, ps, rfl, rfl⟩
  have I5 : Inv X pins σ H4 { s4 with heap := s4.heap.push { cls := .type "slice", data := .fields #[vl, vu, vs] } } := I4.kept (t' := s4.toks) fun b ob q => Heap.get?_push_of_some _ q
  obtain ⟨l', rfl, el⟩ := IsPart.raw pl
  obtain ⟨u', rfl, eu⟩ := IsPart.raw pu
  obtain ⟨k', rfl, ek⟩ := IsPart.raw ps
  cases l' with
  | some _ => cases el
  | none =>
    cases u' with
    | some _ => cases eu
    | none =>
      cases k' with
      | none => cases ek
      | some kk =>
        obtain ⟨ki, kt⟩ := kk
        have eki : ki = -1 := Option.some.inj ek
        subst eki
        show wpAny (model X.prog X.w) X.A (subscriptTail e (.Slice none none (some (.UnaryOp .USub (.Constant (.int 1) k p1) p2)) p3) (.str z t) (.ref s4.heap.objs.size)) (EP X pins σ Q) X.xe _
        refine tail_any (ops := [.ref s4.heap.objs.size, .str z t]) (typeIs_str _ _ _) F.slot_str_getitem.lookup ?_ (by with_unfolding_all rfl)
        refine wpAny_getItem_str_slice (l := none) (u := none) (st := some (-1, kt)) ⟨_, Heap.get?_push_size _ rfl, rfl, rfl⟩ rfl ?_
        have hp : slicePicked z none none (some (-1, kt)) = (List.range z.length).reverse := rev_ix z.length
        have er : ((List.range z.length).reverse.filterMap (z.cps[·]?)) = z.cps.toList.reverse := by
          rw [List.filterMap_reverse, show z.length = z.cps.size from rfl, PySem.W.krv_all]
        show (sliceMade z t none none (some (-1, kt))).post _ _
        unfold sliceMade
        rw [if_neg (by intro h; simp at h), hp, er]
        refine ⟨?_, .str _, H4, I5.tok _, ⟨_, rfl⟩, q⟩
        show z.cps.toList.reverse.toArray.size ≤ sizeLine
        rw [List.size_toArray, List.length_reverse, Array.length_toList]
        exact hz
theorem g_revS {te : TE} (q : te σ H fun x H1 => ∃ z, x = .str z ∧ z.length ≤ sizeLine ∧ Q (.str ⟨z.cps.toList.reverse.toArray⟩) H1) : tRevS te σ H Q := q
theorem g_revS1 {P : Str → Prop} (h : z.length ≤ sizeLine) (q : P z) : ∃ z', V.str z = .str z' ∧ z'.length ≤ sizeLine ∧ P z' := ⟨z, rfl, h, q⟩
theorem g_pop {y : V} {xs : List V} (h : H p = some (.lst (xs ++ [y]))) (q : Q y (upd H p (.lst xs))) : rPop (.ref p) [] H Q := ⟨p, _, y, rfl, rfl, h, by simp, by rw [List.dropLast_concat]; exact q⟩
theorem g_append {y : V} {xs : List V} (h : H p = some (.lst xs)) (hz : xs.length < 16000000) (q : Q .non (upd H p (.lst (xs ++ [y])))) : rAppend (.ref p) [y] H Q := ⟨p, xs, y, rfl, rfl, h, by rw [sizeLine_eq]; omega, q⟩
/-- a list or a tuple at a -/
def Sq (K : PySem.W.Frag) (H : Hp) (a : Addr) (xs : List V) : Prop := SqL K H a xs ∨ SqT K H a xs
theorem st_same {H' : Hp} (e : Same H H') (h : SqT K H a xs) : SqT K H' a xs := by
  rcases h with (h | ⟨o, h⟩) | h
  · exact .inl (.inl (e _ _ h))
  · exact .inl (.inr ⟨o, e _ _ h⟩)
  · exact .inr h
theorem Sq.same {H' : Hp} (e : Same H H') (h : Sq K H a xs) : Sq K H' a xs := h.elim (fun h => .inl (sq_same e h)) fun h => .inr (st_same e h)
theorem g_anySq {H0 : Hp} {ta : TE} {R : It → Hp → Prop} (e : ∀ Q : VK, Q (.ref a) H → ta σ H Q) (h : Sq K H0 a xs) (e0 : Same H0 H) (q : ∀ J G, Walk J xs.length G (YAt xs) → (∀ H', Same H0 H' → G H') → R J H) : iAny K ta σ H R :=
  e _ (h.elim (fun h => .inl ⟨a, rfl, ⟨xs, sq_same e0 h⟩, q _ _ walk_list fun _ e => sq_same e h⟩) fun h => .inr (.inl ⟨a, rfl, ⟨xs, st_same e0 h⟩, q _ _ walk_tup fun _ e => st_same e h⟩))
theorem g_lenSq (h : Sq K H a xs) (q : Q (.int (xs.length : Nat)) H) : rLenU K [.ref a] H Q := h.elim (fun h => g_lenL h q) fun h => g_lenT h q
end
end Hx

namespace Hx
open PySem PySem.Spec PyProof.Rows L2
/-! ### defs that are called where nothing is being shown (no repr under way): so repr of data is known -/
structure RoomG (k : Nat) (A : Around) : Prop extends Room k A where
  gd : A.guards = some []
section
variable {j k : Nat} {A : Around}
theorem RoomG.mono (r : RoomG k A) (h : j ≤ k) : RoomG j A := ⟨r.toRoom.mono h, r.gd⟩
theorem RoomG.deeper (r : RoomG (k + 1) A) (env : Env) : RoomG k (A.deeper env) := ⟨r.toRoom.deeper env, r.gd⟩
theorem RoomG.make (r : RoomG (k + 1) A) (C : Addr) (us : List Value) (kw : List (Str × Value)) : RoomG k (A.under (.builtin "type.__call__" ⟨.ref C :: us, kw⟩)) := by
  refine ⟨r.toRoom.make C us kw, ?_⟩
  simp [Around.under, Code.guards, Code.isGuard, guardIds, pushGuards, r.gd]
theorem RoomG.units (r : RoomG k A) : A.units + 64 < cLine := r.toRoom.units
end
theorem huG {A : Around} {k : Nat} (hr : RoomG k A) : A.units + 1 < cLine := hu_of hr.toRoom
section
variable {P : Program} {w : World} {K : PySem.W.Frag} {mg : Str → Option Value} {base : Heap} {CX : CXT} {j k : Nat} {f : Addr} {fd : FuncData} {ps : List Str} {sp : Sp}
structure FnG (P : Program) (w : World) (K : PySem.W.Frag) (mg : Str → Option Value) (base : Heap) (CX : CXT) (k : Nat) (f : Addr) (fd : FuncData) (ps : List Str) (sp : Sp) : Prop where
  many : ∀ vs H Q E, sp vs H Q E → vs.length = ps.length
  goes : ∀ (A : Around) (below : List Env) (s : Shared) (H : Hp) (given : Args) (us : List Value) (vs : List V) (Q : VK) (E : XK), RoomG k A →
    Env0 P w K mg base A below s H → BindsTo s fd given (ps.zip us) → Vals vs us → sp vs H Q E → codeAny (model P w) A (.call (.ref f) given) (CR CX below P w H s Q E) s
theorem FnG.mono (F : FnG P w K mg base CX j f fd ps sp) (h : j ≤ k) : FnG P w K mg base CX k f fd ps sp := ⟨F.many, fun A b s H g us vs Q E r => F.goes A b s H g us vs Q E (r.mono h)⟩
theorem FnG.imp {sp' : Sp} (F : FnG P w K mg base CX k f fd ps sp) (h : ∀ vs H Q E, sp' vs H Q E → sp vs H Q E) : FnG P w K mg base CX k f fd ps sp' :=
  ⟨fun vs H Q E q => F.many vs H Q E (h _ _ _ _ q), fun A b s H g us vs Q E r e bd rv q => F.goes A b s H g us vs Q E r e bd rv (h _ _ _ _ q)⟩
/-- what a wanted end makes of a call's end -/
theorem fl_end {X : Cx} {pins : List (Addr × Obj)} {σ : L2.St} {H : Hp} {s : Shared} {Q : VK} {E : XK} {r : Result} {s' : Shared} (I : Inv X pins σ H s) (hx : ∀ e, CX X.stack H s E e s' → X.xe e s') (h : CR CX X.stack X.prog X.w H s Q E r s') :
    match r with | .ok (.ret u) => EP X pins σ Q u s' | .ok _ => False | .error e => X.xe e s' := by
  rcases r with e | (u | _ | _ | _)
  · exact hx e h
  all_goals first | exact I.after h | exact h.elim
end
section
variable {X : Cx} {CX : CXT} {k : Nat} {f : Addr} {fd : FuncData} {ps ks : List Str} {sp : Sp} {E : XK} {x : Str} {p pos : Pos} {e : Expr} {es : List Expr} {kws : List Keyword} {ta tk : TA} {g : List Value → List Value → List Value} {gV : List V → List V → List V}
theorem into {pins : List (Addr × Obj)} {σ : L2.St} {H : Hp} {s : Shared} {Q : VK} {E : XK} {given : Args} {us : List Value} {vs : List V} (F : FnG X.prog X.w X.K X.mg X.base CX k f fd ps sp) (hr : RoomG k X.A) (hx : ∀ e s', CX X.stack H s E e s' → X.xe e s')
    (I : Inv X pins σ H s) (hb : (us.length = ps.length) → BindsTo s fd given (ps.zip us)) (r : Vals vs us) (h : sp vs H Q E) : wpAny (model X.prog X.w) X.A (call (.ref f) given.pos given.kw) (EP X pins σ Q) X.xe s := by
  have n : us.length = ps.length := r.length.symm.trans (F.many _ _ _ _ h)
  obtain ⟨gp, gk⟩ := given
  refine wpAny_call (codeAny_mono (F.goes X.A X.stack s H ⟨gp, gk⟩ us vs Q E hr I.env0 (hb n) r h) fun r s' hq => ?_)
  have z := fl_end I (fun e => hx e s') hq
  rcases r with e | (u | _ | _ | _) <;> exact z
theorem pc_pos (F : FnG X.prog X.w X.K X.mg X.base CX k f fd ps sp) (hr : RoomG k X.A) (hg : Gl X x) (hm : X.mg x = some (.ref f)) (kp : PySem.W.keepIn X.K (.ref f) = true) (hb : Binds X.K fd ps []) (hx : Passes CX X E) (ha : PA X (e :: es) ta)
    (n2 : (x == ("__debug__" : Str)) = false := by decide) (he : starEach (e :: es) X.env = (false, eval e X.env) :: starEach es X.env := by rfl) (hpl : (backTo pos (starEach es X.env)).any (·.1) = false := by rfl) :
    PE X (.Call (.Name x p) (e :: es) [] pos) (tCall sp [] E ta) := by
  refine ⟨fun pins s σ H Q I h => wpAny_Call_Name_kw (ld_glob I hg hm ?_ n2)⟩
  refine PySem.W.callWith_K (h₀ := X.base) I.ok.mod.kin kp (thn (ha.run pos pins s σ H _ I h) fun us s1 hh => ?_) he hpl
  obtain ⟨vs, G, J, r, q⟩ := hh
  refine ⟨J.kIn, into (given := ⟨us, []⟩) (us := us) F hr (fun e s' => hx pins σ G s1 e s' J) J (fun n => ?_) r (by rw [List.append_nil] at q; exact q)⟩
  have z := hb s1 us J.kIn (by rw [List.append_nil]; exact n)
  rw [List.append_nil] at z; exact z
theorem pc_none (F : FnG X.prog X.w X.K X.mg X.base CX k f fd ps sp) (hr : RoomG k X.A) (hg : Gl X x) (hm : X.mg x = some (.ref f)) (kp : PySem.W.keepIn X.K (.ref f) = true) (hb : Binds X.K fd ps []) (hx : Passes CX X E) (n2 : (x == ("__debug__" : Str)) = false := by decide) :
    PE X (.Call (.Name x p) [] [] pos) (tCall sp [] E tNil) := by
  refine ⟨fun pins s σ H Q I h => wpAny_Call_Name_kw (ld_glob I hg hm ?_ n2)⟩
  refine PySem.W.callWith_K0 I.kIn kp (into (given := ⟨[], []⟩) (us := []) F hr (fun e s' => hx pins σ H s e s' I) I (fun n => ?_) .nil h)
  exact hb s [] I.kIn n
theorem pc_kws (F : FnG X.prog X.w X.K X.mg X.base CX k f fd ps sp) (hr : RoomG k X.A) (hg : Gl X x) (hm : X.mg x = some (.ref f)) (kp : PySem.W.keepIn X.K (.ref f) = true) (hb : KBinds X.K fd ps ks g gV) (hx : Passes CX X E) (hk : PK X kws tk)
    (all : (backToKw pos (keywordEach kws X.env)).all (·.1.isSome) = true := by rfl) (nms : (backToKw pos (keywordEach kws X.env)).filterMap (·.1) = ks := by rfl) (n2 : (x == ("__debug__" : Str)) = false := by decide)
    (pl : ((backTo pos (starEach [] X.env)).any (·.1) || (backToKw pos (keywordEach kws X.env)).any (·.1.isNone)) = false := by rfl) : PE X (.Call (.Name x p) [] kws pos) (tCallK sp gV E tNil tk) := by
  refine ⟨fun pins s σ H Q I h => wpAny_Call_Name_kw (ld_glob I hg hm ?_ n2)⟩
  refine PySem.W.callWith_KW0 (h₀ := X.base) I.ok.mod.kin kp all ?_ pl
  refine thn (hk.run pos pins s σ H _ I h) fun ws s2 hh => ?_
  obtain ⟨zs, G, J, rz, q⟩ := hh
  refine ⟨J.kIn, ?_⟩
  rw [nms]
  exact into (given := ⟨[], ks.zip ws⟩) (us := g [] ws) F hr (fun e s' => hx pins σ G s2 e s' J) J (fun n => hb.to s2 [] ws J.kIn n) (hb.rel .nil rz) q
theorem pc_mix (F : FnG X.prog X.w X.K X.mg X.base CX k f fd ps sp) (hr : RoomG k X.A) (hg : Gl X x) (hm : X.mg x = some (.ref f)) (kp : PySem.W.keepIn X.K (.ref f) = true) (hb : KBinds X.K fd ps ks g gV) (hx : Passes CX X E) (ha : PA X (e :: es) ta) (hk : PK X kws tk)
    (all : (backToKw pos (keywordEach kws X.env)).all (·.1.isSome) = true := by rfl) (nms : (backToKw pos (keywordEach kws X.env)).filterMap (·.1) = ks := by rfl) (n2 : (x == ("__debug__" : Str)) = false := by decide)
    (he : starEach (e :: es) X.env = (false, eval e X.env) :: starEach es X.env := by rfl)
    (pl : ((backTo pos (starEach (e :: es) X.env)).any (·.1) || (backToKw pos (keywordEach kws X.env)).any (·.1.isNone)) = false := by rfl) : PE X (.Call (.Name x p) (e :: es) kws pos) (tCallK sp gV E ta tk) := by
  refine ⟨fun pins s σ H Q I h => wpAny_Call_Name_kw (ld_glob I hg hm ?_ n2)⟩
  refine PySem.W.callWith_KW (h₀ := X.base) I.ok.mod.kin kp all (thn (ha.run pos pins s σ H _ I h) fun us s1 h1 => ?_) pl he
  obtain ⟨vs, G1, J1, r1, q1⟩ := h1
  refine thn (hk.run pos pins s1 σ G1 _ J1 q1) fun ws s2 hh => ?_
  obtain ⟨zs, G, J, rz, q⟩ := hh
  refine ⟨J.kIn, ?_⟩
  rw [nms]
  exact into (given := ⟨us, ks.zip ws⟩) (us := g us ws) F hr (fun e s' => hx pins σ G s2 e s' J) J (fun n => hb.to s2 us ws J.kIn n) (hb.rel r1 rz) q
/-- in the body of a try: what the callee lets out may speak of the slots -/
def tCallE (sp : Sp) (W : WX) (t : TA) : TE := fun σ H Q => t σ H fun vs G => sp vs G Q fun cls d J => W cls d σ J
theorem g_callE {W : WX} {σ : L2.St} {H : Hp} {Q : VK} (h : ta σ H fun vs G => sp vs G Q fun cls d J => W cls d σ J) : tCallE sp W ta σ H Q := h
theorem pc_try {W : WX} (F : FnG X.prog X.w X.K X.mg X.base (L2.CX X.prog X.w) k f fd ps sp) (hr : RoomG k X.A) (hg : Gl X x) (hm : X.mg x = some (.ref f)) (kp : PySem.W.keepIn X.K (.ref f) = true) (hb : Binds X.K fd ps []) (tk : Takes X W) (ha : PA X (e :: es) ta)
    (n2 : (x == ("__debug__" : Str)) = false := by decide) (he : starEach (e :: es) X.env = (false, eval e X.env) :: starEach es X.env := by rfl) (hpl : (backTo pos (starEach es X.env)).any (·.1) = false := by rfl) :
    PE X (.Call (.Name x p) (e :: es) [] pos) (tCallE sp W ta) := by
  refine ⟨fun pins s σ H Q I h => wpAny_Call_Name_kw (ld_glob I hg hm ?_ n2)⟩
  refine PySem.W.callWith_K (h₀ := X.base) I.ok.mod.kin kp (thn (ha.run pos pins s σ H _ I h) fun us s1 hh => ?_) he hpl
  obtain ⟨vs, G, J, r, q⟩ := hh
  refine ⟨J.kIn, into (given := ⟨us, []⟩) (us := us) F hr (fun e s' c => passAt tk σ pins G s1 e s' J c) J (fun n => ?_) r q⟩
  have z := hb s1 us J.kIn (by rw [List.append_nil]; exact n)
  rw [List.append_nil] at z; exact z
end
/-! ### a def by its body -/
section
variable {P : Program} {w : World} {K : PySem.W.Frag} {mg : Str → Option Value} {base : Heap}
theorem body_goes {CX : CXT} {k : Nat} {f : Addr} {name qual : Str} {pr : Arguments} {body : List Stmt} {sc : Scope} {dV kV doc pm cdv ct oc : Value} {an od : Option Addr} {osl : Array (Option Value)} {N ps : List Str} {sp : Sp}
    (lk : K.lookup f = some ⟨oc, od, .func (PySem.W.fnOf name qual pr body sc dV kV doc pm an cdv ct), osl⟩) (hcd : PySem.W.codeIn K cdv qual = true) (S : FnScope N ps sc) (many : ∀ vs H Q E, sp vs H Q E → vs.length = ps.length)
    (hbody : ∀ (A : Around) (below : List Env) (s : Shared) (H : Hp) (vs : List V) (Q : VK) (E : XK), RoomG k (A.deeper (envOfC qual sc s.heap.objs.size f cdv)) → sp vs H Q E →
      ∃ t, PSs (cxOf CX P w K mg base N qual sc f cdv A below s H E) body t ∧ t { nx := fun _ G => Q .non G, rt := Q } (start N vs) H) : FnG P w K mg base CX (k + 1) f (PySem.W.fnOf name qual pr body sc dV kV doc pm an cdv ct) ps sp := by
  refine ⟨many, fun A below s H given us vs Q E hr e0 hb rv h => ?_⟩
  have old : ∀ b o, base.get? b = some o → s.heap.get? b = some o := fun b o e => (e0.bs b o e).1
  have KX : K.In s.heap := e0.mod.kin.keeps old
  have kinds : ∀ y ∈ ps.zip us, sc.names.lookup y.1 = some .local ∨ (sc.names.lookup y.1 = some .cell ∧ ((cellsFrom (s.heap.objs.size + 1) sc.names []).lookup y.1).isSome = true) := by
    rintro ⟨n, v⟩ hy
    exact (S.par n (List.of_mem_zip hy).1).imp id fun q => ⟨q, PySem.W.cellsFrom_some _ _ _ (.inl q)⟩
  refine codeAny_call_function hr.toRoom.depth (KX _ _ lk) rfl S.co S.gen rfl (PySem.W.codeRec_of KX hcd) (hb _ _ _ _ ?_)
  refine wpAny_newFunctionEnv_cells S.kind kinds fun env he s1 x => ?_
  subst he
  refine ⟨(e0.mod.nolimit.keeps old).keeps x.toInCall.keep, codeAny_func ?_⟩
  obtain ⟨t, ht, hq⟩ := hbody A below s H vs Q E (hr.deeper _) h
  refine wpAny_mono (ht.run [] s1 (start N vs) H _ (inv_start S hr.hd e0 (many _ _ _ _ h) rv x) hq) (fun fl s' hs => ?_) fun _ _ hs => hs
  cases fl with
  | ret u =>
    obtain ⟨v, τ, G, J, r, q⟩ := hs
    exact ⟨v, G, J.os, J.bare, J.base, J.hok, r, q⟩
  | next =>
    obtain ⟨τ, G, J, q⟩ := hs
    exact ⟨.non, G, J.os, J.bare, J.base, J.hok, rfl, q⟩
  | brk => obtain ⟨_, _, _, q⟩ := hs; exact q.elim
  | cont => obtain ⟨_, _, _, q⟩ := hs; exact q.elim
variable {x qual : Str} {st : Stmt} {f : Addr} {fd : FuncData} {N ps : List Str} {k : Nat} {sp : Sp}
theorem fnX (F : Fun K x qual st f fd) (S : FnScope N ps (defScope st)) (many : ∀ vs H Q E, sp vs H Q E → vs.length = ps.length)
    (hbody : ∀ (cdv : Value) (A : Around) (below : List Env) (s : Shared) (H : Hp) (vs : List V) (Q : VK) (E : XK), RoomG k (A.deeper (envOfC qual (defScope st) s.heap.objs.size f cdv)) → sp vs H Q E →
      ∃ t, PSs (cxOf (L2.CX P w) P w K mg base N qual (defScope st) f cdv A below s H E) (defBody st) t ∧ t { nx := fun _ G => Q .non G, rt := Q } (start N vs) H) : FnG P w K mg base (L2.CX P w) (k + 1) f fd ps sp := by
  obtain ⟨oc, od, kV, doc, pm, an, cdv, ct, osl, rfl, lk, hcd⟩ := F.ex
  exact body_goes lk hcd S many fun A b s H vs Q E hr h => hbody cdv A b s H vs Q E hr h
theorem fn0 (F : Fun K x qual st f fd) (S : FnScope N ps (defScope st)) (many : ∀ vs H Q E, sp vs H Q E → vs.length = ps.length)
    (hbody : ∀ (cdv : Value) (A : Around) (below : List Env) (s : Shared) (H : Hp) (vs : List V) (Q : VK) (E : XK), RoomG k (A.deeper (envOfC qual (defScope st) s.heap.objs.size f cdv)) → sp vs H Q E →
      ∃ t, PSs (cxOf CX0 P w K mg base N qual (defScope st) f cdv A below s H E).nox (defBody st) t ∧ t { nx := fun _ G => Q .non G, rt := Q } (start N vs) H) : FnG P w K mg base CX0 (k + 1) f fd ps sp := by
  obtain ⟨oc, od, kV, doc, pm, an, cdv, ct, osl, rfl, lk, hcd⟩ := F.ex
  refine body_goes lk hcd S many fun A b s H vs Q E hr h => ?_
  obtain ⟨t, ht, q⟩ := hbody cdv A b s H vs Q E hr h
  exact ⟨t, ht.nox, q⟩
end
theorem g_par {i j : Nat} {ta : TA} {D : Ends} {σ : L2.St} {H : Hp} (q : ta σ H fun vs G => ∃ v w, vs = [v, w] ∧ D.nx ((σ.set i (some v)).set j (some w)) G) : tPar i j ta D σ H := q
theorem g_two {x y : V} {R : V → V → Prop} (q : R x y) : ∃ v w, [x, y] = [v, w] ∧ R v w := ⟨x, y, rfl, q⟩
theorem g_meet {b : Bool} {A B C : Prop} (q : C) (h1 : b = true → C → A) (h2 : b = false → C → B) : if b = true then A else B := by
  cases b with
  | true => exact h1 rfl q
  | false => exact h2 rfl q
theorem g_meetH {b : Bool} {A B : Prop} {H : Hp} {C : Hp → Prop} (q : ∀ G, Same H G → C G) (h1 : b = true → (∀ G, Same H G → C G) → A) (h2 : b = false → (∀ G, Same H G → C G) → B) : if b = true then A else B := by
  cases b with
  | true => exact h1 rfl q
  | false => exact h2 rfl q
/-! ### int of an int, a truth, a text -/
def rIntU : List V → Hp → VK → Prop := fun xs H Q => rInt1 xs H Q ∨ ∃ a n, xs = [.str a] ∧ PySem.intText? a = some n ∧ a.length ≤ 640 ∧ Q (.int n) H
theorem call_intU {X : Cx} : CallR X (.type "int") rIntU := call_int1U.or call_int_str
theorem g_intI {i : Int} {H : Hp} {Q : VK} (q : Q (.int i) H) : rIntU [.int i] H Q := .inl (.inl ⟨i, rfl, q⟩)
theorem g_intBU {b : Bool} {H : Hp} {Q : VK} (q : Q (.int (if b then 1 else 0)) H) : rIntU [.bl b] H Q := .inl (.inr ⟨b, rfl, q⟩)
theorem g_intS {a : Str} {n : Int} {H : Hp} {Q : VK} (e : PySem.intText? a = some n) (z : a.length ≤ 640) (q : Q (.int n) H) : rIntU [.str a] H Q := .inr ⟨a, n, rfl, e, z, q⟩
/-! ### what is kept -/
theorem tup_same {K : PySem.W.Frag} {H H1 : Hp} {a : Addr} {xs : List V} (e : Same H H1) (h : SqT K H a xs) : SqT K H1 a xs := by
  rcases h with (h | ⟨o, h⟩) | h
  · exact .inl (.inl (e _ _ h))
  · exact .inl (.inr ⟨o, e _ _ h⟩)
  · exact .inr h
theorem ty_same {K : PySem.W.Frag} {H H1 : Hp} {x : V} {t : Value} (e : Same H H1) (h : TyX K H x t) : TyX K H1 x t := by
  cases h with
  | base b =>
    refine .base ?_
    cases b with
    | non => exact .non
    | bl x => exact .bl x
    | int i => exact .int i
    | str x => exact .str x
    | flt x => exact .flt x
    | lst q => exact .lst (e _ _ q)
    | frz q => exact .frz (e _ _ q)
    | tup q => exact .tup (e _ _ q)
    | dK q => exact .dK (e _ _ q)
    | dT q => exact .dT (e _ _ q)
    | ins q c h1 h2 h3 h4 => exact .ins (e _ _ q) c h1 h2 h3 h4
  | byt b => exact .byt b
  | set q => exact .set (e _ _ q)
  | kList q c => exact .kList q c
  | kTuple q c => exact .kTuple q c
  | kDict q c => exact .kDict q c
  | fTuple q => exact .fTuple (e _ _ q)
  | fDict q => exact .fDict (e _ _ q)
mutual
theorem dp_same {K : PySem.W.Frag} {H H1 : Hp} (e : Same H H1) : ∀ {v : V} {d : PyData}, Dp K H v d → Dp K H1 v d
  | _, _, .non => .non
  | _, _, .bl b => .bl b
  | _, _, .int i => .int i
  | _, _, .str x => .str x
  | _, _, .lst h k => .lst (e.seq h) (da_same e k)
  | _, _, .tup h k => .tup (tup_same e h) (da_same e k)
theorem da_same {K : PySem.W.Frag} {H H1 : Hp} (e : Same H H1) : ∀ {vs : List V} {ds : List PyData}, DpAll K H vs ds → DpAll K H1 vs ds
  | _, _, .nil => .nil
  | _, _, .cons h k => .cons (dp_same e h) (da_same e k)
end
/-! ### repr of data -/
def rReprD (K : PySem.W.Frag) : List V → Hp → VK → Prop := fun xs H Q => (∃ (x : V) (d : PyData), xs = [x] ∧ Dp K H x d ∧ d.showable = true ∧ d.hasDict = false ∧ d.depth ≤ 60 ∧ d.shown.length ≤ sizeLine ∧ Q (.str d.shown) H) ∨
  ∃ a : Addr, xs = [.ref a] ∧ H a = some (.dK []) ∧ Q (.str (PyData.shown (.dict []))) H
theorem call_reprD {X : Cx} {K : PySem.W.Frag} (hK : X.K = K) (gd : X.A.guards = some []) (un : X.A.units + 64 < cLine) : CallR X (.builtin "repr") (rReprD K) := by
  subst hK
  intro pins s σ H xs us Q I r h
  rcases h with ⟨x, d, rfl, hd, sh, nd, dp, sz, q⟩ | ⟨a, rfl, ha, q⟩
  rotate_left
  · obtain ⟨u, rfl, ru⟩ := vals1 r
    obtain rfl : u = Value.ref a := ru
    obtain ⟨_, hs, vs, kv, dd⟩ : ObjOk X.prog X.w H s.heap a (.dK []) := I.hok a _ ha
    cases kv
    have rd : Reads s.heap (.ref a) (.dict []) [a] := by
      obtain ⟨o, es, ep, h1, h2, h3, h4, h5, h6⟩ := dd
      have el : es.toList = [] := by
        generalize es.toList = l at h5
        cases h5
        rfl
      exact Reads.dict (kvs := []) h1 h2.1 h3 (by rw [el]; exact .nil) (by rw [el]; exact .nil)
    exact repr_of_reads' rd rfl (fun _ hm => (beq_eq_false_iff_ne.mp hs) (List.mem_singleton.mp hm).symm) gd (by show _ + (0 + 1 + 1) < _; omega) (fun _ _ e => e) (fun h' v tk kp => ⟨.str _, H, I.kept (t' := tk) kp, ⟨_, rfl⟩, q⟩) (by decide +kernel)
  obtain ⟨u, rfl, ru⟩ := vals1 r
  cases d with
  | none => cases hd; cases (show u = Value.none from ru); exact PySem.P.repr_of_none ⟨.str _, H, I.tok _, ⟨_, rfl⟩, q⟩
  | bool b => cases hd; cases (show u = Value.bool b from ru); exact PySem.P.repr_of_bool ⟨.str _, H, I.tok _, ⟨_, rfl⟩, q⟩
  | int i =>
    cases hd
    obtain ⟨t, rfl⟩ := (show ∃ t, u = Value.int i t from ru)
    exact PySem.P.repr_of_int (of_decide_eq_true sh) ⟨.str _, H, I.tok _, ⟨_, rfl⟩, q⟩
  | str z =>
    cases hd
    obtain ⟨t, rfl⟩ := (show ∃ t, u = Value.str z t from ru)
    exact PySem.P.repr_of_str (hsz := sz) ⟨.str _, H, I.tok _, ⟨_, rfl⟩, q⟩
  | list ds =>
    obtain ⟨as, rd⟩ := Dp.reads I _ _ _ hd ru
    obtain ⟨a, rfl⟩ : ∃ a, u = .ref a := by cases rd; exact ⟨_, rfl⟩
    exact repr_of_reads' rd sh (PyData.noDict_hsm nd) gd (by omega) (fun _ _ e => e) (fun h' v tk kp => ⟨.str _, H, I.kept (t' := tk) kp, ⟨_, rfl⟩, q⟩) sz
  | tuple ds =>
    obtain ⟨as, rd⟩ := Dp.reads I _ _ _ hd ru
    obtain ⟨a, rfl⟩ : ∃ a, u = .ref a := by cases rd; exact ⟨_, rfl⟩
    exact repr_of_reads' rd sh (PyData.noDict_hsm nd) gd (by omega) (fun _ _ e => e) (fun h' v tk kp => ⟨.str _, H, I.kept (t' := tk) kp, ⟨_, rfl⟩, q⟩) sz
  | dict kvs => exact absurd nd (by simp [PyData.hasDict])
theorem g_reprD {K : PySem.W.Frag} {H : Hp} {Q : VK} {x : V} {d : PyData} (hd : Dp K H x d) (sh : d.showable = true) (nd : d.hasDict = false) (dp : d.depth ≤ 60) (sz : d.shown.length ≤ sizeLine) (q : Q (.str d.shown) H) : rReprD K [x] H Q := .inl ⟨x, d, rfl, hd, sh, nd, dp, sz, q⟩
theorem g_reprE {K : PySem.W.Frag} {H : Hp} {Q : VK} {a : Addr} (h : H a = some (.dK [])) (q : Q (.str (PyData.shown (.dict []))) H) : rReprD K [.ref a] H Q := .inr ⟨a, rfl, h, q⟩
theorem g_reprBD {K : PySem.W.Frag} {H : Hp} {Q : VK} {b : Bool} (q : Q (.str (if b then "True" else "False")) H) : rReprD K [.bl b] H Q :=
  .inl ⟨_, .bool b, rfl, .bl b, rfl, rfl, Nat.zero_le _, by cases b <;> decide +kernel, q⟩
/-! ### the law's own call -/
theorem lawG {P : Program} {w : World} {K : PySem.W.Frag} {mg mb : Str → Option Value} {CX : CXT} {k : Nat} {fa a : Addr} {fd : FuncData} {x : Str} {sp : Sp} {s₁ : Shared} {vs : List Value} {ns : List Int}
    (KX : K.In s₁.heap) (nm : s₁.heap.Ns mainGlobals mg) (nb : s₁.heap.Ns builtinsNs mb) (eb : ∀ x : Str, x ≠ "__name__" → mb x = bootBuiltins x) (lim : s₁.heap.NoLimit) (ng : s₁.gens = #[])
    (ha : s₁.heap.get? a = some { cls := .type "list", data := .seq vs.toArray }) (hi : IntsAre vs ns) (hl : ns.length ≤ sizeLine) (hr : RoomG k callerA)
    (F : ∀ base : Heap, K.In base → base.Ns mainGlobals mg → FnG P w K mg base CX k fa fd [x] sp) (bd : ∀ (s : Shared) (u : Value), BindsTo s fd ⟨[u], []⟩ [(x, u)])
    (hsp : ∀ H : Hp, Only H → SqL K H a (ns.map V.int) → sp [.ref a] H (fun v _ => v = .bl true) fun _ _ _ => False) (noX : ∀ H e s', CX [] H s₁ (fun _ _ _ => False) e s' → False) :
    codeAny (model P w) callerA (.call (.ref fa) ⟨[.ref a], []⟩) (fun r s' => r = .ok (.ret (.bool true)) ∧ OldK s₁.heap s'.heap ∧ s'.os = s₁.os ∧ AllBare s'.gens) s₁ := by
  have rv := vals_ints hi
  have lv := hi.length
  have main : ∀ H : Hp, Only H → SqL K H a (ns.map V.int) → HOk P w H s₁.heap → (∀ b, H b ≠ none → b = a ∧ K.lookup a = none) →
      codeAny (model P w) callerA (.call (.ref fa) ⟨[.ref a], []⟩) (fun r s' => r = .ok (.ret (.bool true)) ∧ OldK s₁.heap s'.heap ∧ s'.os = s₁.os ∧ AllBare s'.gens) s₁ := by
    intro H only S ok own
    have un : ∀ {b : Addr}, (b = a → K.lookup a = none → False) → H b = none := fun {b} no => by
      cases z : H b with
      | none => rfl
      | some u => exact (no (own b (by rw [z]; simp)).1 (own b (by rw [z]; simp)).2).elim
    have ns' : ∀ {b : Addr} {m : Str → Option Value}, s₁.heap.Ns b m → (hidT s₁.heap H).Ns b m := by
      rintro b m ⟨o, es, ep, e, d, r⟩
      refine ⟨o, es, ep, hidT_get e (un fun z _ => ?_), d, r⟩
      rw [z, ha] at e
      cases e
      cases (show Data.seq vs.toArray _ = Data.dict es ep from d)
    have kb : K.In (hidT s₁.heap H) := fun b o e => hidT_get (KX b o e) (un fun z n => by rw [← z, e] at n; cases n)
    have e0 : Env0 P w K mg (hidT s₁.heap H) callerA [] s₁ H := by
      obtain ⟨mc, l1, l2⟩ := lim
      exact ⟨rfl, ⟨kb, ns' nm, ⟨mb, ns' nb, eb⟩, ⟨mc, ns' l1, l2⟩⟩, fun b o e => of_hidT e, Nat.le_of_eq (hidT_size _ _), trivial, fun b z => absurd (show b ∈ ([] : List Addr) from z) (by simp), ok, .of_eq ng⟩
    refine codeAny_mono ((F _ kb (ns' nm)).goes callerA [] s₁ H ⟨[.ref a], []⟩ [.ref a] [.ref a] _ _ hr e0 (bd s₁ (.ref a)) (.cons rfl .nil) (hsp H only S)) fun r s' h => ?_
    cases r with
    | error e => exact (noX H e s' h).elim
    | ok fl =>
      cases fl with
      | next => exact h.elim
      | brk => exact h.elim
      | cont => exact h.elim
      | ret u =>
        obtain ⟨v, G, os, bare, chg, ok', r', q⟩ := h
        obtain rfl : v = .bl true := q
        obtain rfl : u = Value.bool true := r'
        refine ⟨rfl, OldK.of_keep fun b o e => ?_, os, bare⟩
        rcases only b with z | ⟨ob, xs, z⟩
        · exact chg.keep b o e z (fun y => absurd (show b ∈ ([] : List Addr) from y) (by simp)) (by simp)
        · obtain ⟨e1, _⟩ := ok b _ z
          obtain ⟨e2, _⟩ := ok' b _ (chg.frzs b ob _ z)
          rw [e] at e1
          cases e1
          exact e2
  by_cases hk : K.lookup a = none
  · have one : ∀ {b : Addr} {u : HO}, (if b = a then some (HO.frz { cls := .type "list", data := .seq vs.toArray } (.lst (ns.map V.int))) else none) = some u → b = a ∧ HO.frz { cls := .type "list", data := .seq vs.toArray } (.lst (ns.map V.int)) = u := fun {b u} z => by
      by_cases hb : b = a
      · rw [if_pos hb] at z; exact ⟨hb, Option.some.inj z⟩
      · rw [if_neg hb] at z; cases z
    refine main (fun b => if b = a then some (.frz { cls := .type "list", data := .seq vs.toArray } (.lst (ns.map V.int))) else none) (fun b => ?_) (.inl (.inr ⟨{ cls := .type "list", data := .seq vs.toArray }, if_pos rfl⟩)) (fun b u z => ?_) fun b z => ?_
    · by_cases hb : b = a
      · exact .inr ⟨_, _, if_pos hb⟩
      · exact .inl (if_neg hb)
    · obtain ⟨rfl, rfl⟩ := one z
      exact ⟨ha, by rw [List.length_map]; exact hl, vs, _, rv, ha⟩
    · refine ⟨?_, hk⟩
      by_cases hb : b = a
      · exact hb
      · exact absurd (if_neg hb) z
  · obtain ⟨o, e⟩ := Option.ne_none_iff_exists'.mp hk
    have e2 := KX a o e
    rw [ha] at e2
    cases e2
    exact main (fun _ => none) (fun _ => .inl rfl) (.inr ⟨_, vs.toArray, _, e, rfl, rfl, rfl, by rw [List.size_toArray, lv]; exact hl, by simpa using rv⟩) (fun b u z => nomatch z) (fun b z => absurd rfl z)
theorem roomG_caller {k : Nat} (h : Room k callerA) : RoomG k callerA := ⟨h, rfl⟩
theorem walkG {l : PySem.W.OpenLaw} {n k : Nat} {q : Program} {loose : List Str} {XP : (Str → Option Value) → Heap → Prop} {YP : World → Heap → Prop} {d : DefRec} {K : Params → PySem.W.Frag} {CX : World → CXT} {sp : World → Sp} {x : Str}
    (hn : l.most = some n) (hn2 : n ≤ sizeLine) (hdf : d.params.defaults = []) (hr : Room k callerA) (hY : ∀ (w : World) (h : Heap), YP w h → (K w.params).In h)
    (F : ∀ (w : World) (mg : Str → Option Value) (fa : Addr) (h : Heap), (K w.params).In h → h.Ns mainGlobals mg → mg d.name = some (.ref fa) →
      ∃ fd : FuncData, (∀ (s : Shared) (u : Value), BindsTo s fd ⟨[u], []⟩ [(x, u)]) ∧ ∀ base : Heap, (K w.params).In base → base.Ns mainGlobals mg → FnG l.prog w (K w.params) mg base (CX w) k fa fd [x] (sp w))
    (hsp : ∀ (w : World) (H : Hp) (a : Addr) (ns : List Int), ns.length ≤ n → Only H → SqL (K w.params) H a (ns.map V.int) → sp w [.ref a] H (fun v _ => v = .bl true) fun _ _ _ => False)
    (noX : ∀ (w : World) (H : Hp) (s : Shared) (e : Value) (s' : Shared), CX w [] H s (fun _ _ _ => False) e s' → False) : PySem.W.WalkO q loose XP YP l.row.toRowW d [] (fun f vs => PySem.call f vs) := by
  refine Att.attach_call hn hdf fun w s₀ s₁ mg mb fa o pm cd doc a vs ns G Y ho hd hcd hmg hobj hints hlen ng => ?_
  have KX := hY w _ Y
  obtain ⟨fd, bd, hF⟩ := F w mg fa _ KX G.T.g hmg
  exact lawG KX G.T.g G.T.b G.T.builtins G.T.nolimit ng hobj hints (Nat.le_trans hlen hn2) (roomG_caller hr) hF bd (fun H only S => hsp w H a ns hlen only S) fun H e s' => noX w H s₁ e s'
end Hx

namespace Hx
open PySem PySem.Spec PyProof.Rows L2
/-- a builtin exception class under which own classes stand -/
structure EB where
  B : String
  newId : String
  initId : String
  bm : List Value
structure EBok (b : EB) : Prop where
  exc : ExcBaseFacts b.B b.newId b.initId b.bm
  st : StoreFacts b.B b.bm "object.__setattr__" "object"
abbrev ebV : EB := ⟨"ValueError", "ValueError.__new__", "ValueError.__init__", [.type "ValueError", .type "Exception", .type "BaseException", .type "object"]⟩
abbrev ebI : EB := ⟨"IndexError", "IndexError.__new__", "IndexError.__init__", [.type "IndexError", .type "LookupError", .type "Exception", .type "BaseException", .type "object"]⟩
abbrev ebO : EB := ⟨"OverflowError", "OverflowError.__new__", "OverflowError.__init__", [.type "OverflowError", .type "ArithmeticError", .type "Exception", .type "BaseException", .type "object"]⟩
abbrev ebR : EB := ⟨"RuntimeError", "RuntimeError.__new__", "RuntimeError.__init__", [.type "RuntimeError", .type "Exception", .type "BaseException", .type "object"]⟩
theorem ebV_ok : EBok ebV := ⟨F.excBase_ValueError, F.store_ValueError⟩
theorem ebI_ok : EBok ebI := ⟨F.excBase_IndexError, F.store_IndexError⟩
theorem ebO_ok : EBok ebO := ⟨F.excBase_OverflowError, F.store_OverflowError⟩
theorem ebR_ok : EBok ebR := ⟨F.excBase_RuntimeError, F.store_RuntimeError⟩
/-- what the written part says of an own exception class at C -/
structure Xc (K : PySem.W.Frag) (b : EB) (C : Addr) : Prop where
  im : PySem.W.excInitIn K C b.bm b.newId = true
  ov : PySem.W.excOver K C b.bm = true
  hd : PySem.W.hasDictIn K C = true
  sa : PySem.W.findIn K (.ref C) "__setattr__" = some (some (.builtin "object.__setattr__"))
  ga : PySem.W.findIn K (.ref C) "__getattribute__" = some (some (.builtin "BaseException.__getattribute__"))
  gg : PySem.W.findIn K (.ref C) "__getattr__" = some none
  exC : PySem.W.subIn K (.ref C) (.type "BaseException") = some true
  tyC : PySem.W.typeIn K (.ref C) = some (.type "type")
  kC : PySem.W.keepIn K (.ref C) = true
  cl : PySem.W.findIn K (.ref C) "__class__" = some (some (.builtin "object.__class__"))
  gs : PySem.W.specialIn K (.builtin "object.__class__") "__get__" = some (some (.builtin "getset_descriptor.__get__"))
  tk : PySem.W.takesIn K (.builtin "object.__class__") = some true
  mo : PySem.W.mroIn K C (.type "object") = some true
theorem Xc.xf {K : PySem.W.Frag} {b : EB} {C : Addr} (T : Xc K b C) : XfC K C := ⟨T.ga, T.gg, T.exC, T.hd⟩
section
variable {pr : Program} {w : World} {A : Around} {R : Result → Shared → Prop} {hp : Heap} {g : Array GenState} {dw : Drawn} {t : Nat} {os : OsState} {K : PySem.W.Frag} {b : EB}
abbrev exOb (C t1 : Addr) (d : Option Addr) : Obj := { cls := .ref C, dict := d, data := .fields #[.ref t1, .none, .none, .none, .bool false, .none] }
theorem sto1 (F : EBok b) {C x t1 : Addr} {nm : Str} {tk : Tok} {v : Value} (T : Xc K b C) (Y : K.In hp) (hx : hp.get? x = some (exOb C t1 none)) (ht : PySem.W.takerIn K C nm = some none)
    (hq : ∀ h' tk' dx, (∀ c o, c ≠ x → hp.get? c = some o → h'.get? c = some o) → hp.objs.size ≤ dx → dx ≠ x → h'.get? x = some (exOb C t1 (some dx)) →
      h'.Ns1 dx (fun y => if y = nm then some v else none) → R (.ok (.ret .none)) ⟨h', g, dw, tk', os⟩) :
    codeAny (model pr w) A (.call (.builtin "object.__setattr__") ⟨[.ref x, .str nm tk, v], []⟩) R ⟨hp, g, dw, t, os⟩ := by
  have lx : x ≠ hp.objs.size := Nat.ne_of_lt (Heap.lt_size hx)
  refine PySem.W.osa_openX (od := none) F.st Y ⟨hx, rfl, rfl, trivial⟩ T.ov ht fun bb => ?_
  obtain ⟨cd, ec, eh⟩ := PySem.W.any_some T.hd
  refine wpAny_bind (wpAny_pure (wpAny_bind (PySem.W.instanceDict_exc hx (PySem.W.looks_clsIn Y ec) eh ?_)))
  refine PySem.HandSPX.store_in_new ?_ fun h' tk' n' s' => ?_
  · exact ⟨_, #[], _, (Heap.get?_update_ne _ _ _ _ lx.symm).trans (Heap.get?_push_at rfl rfl), rfl, fun e he => absurd he (by simp), fun _ => rfl⟩
  · have x1 : (hp.push (PySem.W.dictOf [] 0)).get? x = some (exOb C t1 none) := Heap.get?_push_of_some _ hx
    refine hq h' tk' hp.objs.size (fun c o hc ho => ?_) (Nat.le_refl _) lx.symm ?_ n'
    · exact (s'.2 c (Nat.ne_of_lt (Heap.lt_size ho))).trans ((Heap.get?_update_ne _ _ _ _ hc).trans (Heap.get?_push_of_some _ ho))
    · exact (s'.2 x lx).trans (Heap.get?_update_self _ x1 rfl)
theorem sto2 (F : EBok b) {C x t1 dx : Addr} {nm : Str} {tk : Tok} {v : Value} {m0 : Str → Option Value} {nl : List Str} (T : Xc K b C) (Y : K.In hp) (hx : hp.get? x = some (exOb C t1 (some dx))) (hn : hp.Ns1 dx m0) (hw : Within m0 nl) (hz : nl.length ≤ 1000)
    (ht : PySem.W.takerIn K C nm = some none)
    (hq : ∀ h' tk', (∀ c o, c ≠ dx → hp.get? c = some o → h'.get? c = some o) → h'.Ns1 dx (fun y => if y = nm then some v else m0 y) → R (.ok (.ret .none)) ⟨h', g, dw, tk', os⟩) :
    codeAny (model pr w) A (.call (.builtin "object.__setattr__") ⟨[.ref x, .str nm tk, v], []⟩) R ⟨hp, g, dw, t, os⟩ := by
  obtain ⟨oD, esD, epD, hoD, hdD, _⟩ := hn.count hw
  refine PySem.W.osa_openX (od := some oD) F.st Y ⟨hx, rfl, rfl, hoD⟩ T.ov ht fun bb => ?_
  obtain ⟨cd, ec, eh⟩ := PySem.W.any_some T.hd
  refine wpAny_bind (wpAny_pure (wpAny_bind (wpAny_bind (wpAny_loadPart hx (wpAny_bind ((PySem.W.looks_clsIn Y ec).here ?_))))))
  rw [eh]
  refine wpAny_pure (a := some dx) ?_
  exact PySem.OEX.store_in_old hn hw hz fun h' tk' n' s' => hq h' tk' (fun c o hc ho => (s'.2 c hc).trans ho) n'
end
section
variable {X : Cx} {b : EB} {pins : List (Addr × Obj)} {σ : L2.St} {H : Hp} {s : Shared} {a C dx : Addr} {f : Str} {y : V} {u : Value} {fs : List (Str × V)} {Q : Unit → Shared → Prop} {E : Value → Shared → Prop} {A : Around}
/-- the first field -/
theorem fld1 (F : EBok b) (T : Xc X.K b C) (J : Inv X pins σ H s) (e : H a = some (exo a C none)) (hno : PySem.W.takerIn X.K C f = some none) (ry : RelV y u)
    (go : ∀ dx s', H dx = none → dx ≠ a → Inv X pins σ (upd (upd H dx (exd dx [(f, y)])) a (exo a C (some dx))) s' → Q () s') : wpAny (model X.prog X.w) A (setAttr (.ref a) f u) Q E s := by
  obtain ⟨t1, ho⟩ := exo_at J.hok e
  obtain ⟨hp, g, d, t, os⟩ := s
  refine PySem.W.set_plain J.kIn (ox := exOb C t1 none) (od := none) ⟨ho, rfl, rfl, trivial⟩ T.sa ?_
  refine sto1 F T J.kIn ho hno fun h' tk' dx kp dn dne hx hn => ?_
  have fr : H dx = none := J.hok.fresh dn
  have old : ∀ {c : Addr} {o : Obj}, hp.get? c = some o → c ≠ dx := fun {c o} z => Nat.ne_of_lt (Nat.lt_of_lt_of_le (Heap.lt_size z) dn)
  have oth : ∀ {c : Addr}, H c = none → c ≠ a := fun {c} n z => by rw [z, e] at n; cases n
  refine go dx _ fr dne (J.un (t' := tk') ⟨?_, ?_, ?_, ?_, ?_, ?_, ?_⟩ fun c o z => ?_)
  · exact fun c o z n _ _ => kp c o (oth n) z
  · exact fun c o z n _ _ => ⟨o.slots, kp c o (oth n) z⟩
  · exact fun c o z n _ => by rw [upd_ne (oth n), upd_ne (old z)]; exact n
  · intro c o z _
    by_cases hc : c = a
    · exact ⟨_, hc ▸ hx⟩
    · exact ⟨o, kp c o hc z⟩
  · exact fun c xs z => by rw [upd_ne (at_ne e z exo_tup), upd_ne (ne_of_none z fr)]; exact z
  · exact fun c o v z => by rw [upd_ne (at_ne e z exo_frz), upd_ne (ne_of_none z fr)]; exact z
  · exact fun c ps z => ⟨#[], by rw [upd_ne (at_ne e z exo_tbl), upd_ne (ne_of_none z fr), z]; simp⟩
  · by_cases hc : c = a
    · subst hc; rw [upd_same] at z; cases z; exact exo_ok hx
    rw [upd_ne hc] at z
    by_cases hd : c = dx
    · subst hd; rw [upd_same] at z; cases z; exact exd_ok hn (relO_put (fs := []) ry fun _ => True.intro)
    rw [upd_ne hd] at z
    refine (J.hok c o z).stay (fun i v hi q => kp i v ?_ q) (fun i hi => ?_) (fun i xs hi => ?_)
    · rcases hi with hi | hi
      · exact hi ▸ hc
      · exact at_ne e hi exo_own
    · rw [upd_ne (at_ne e hi exo_own), upd_ne (ne_of_none hi fr)]; exact hi
    · rw [upd_ne (at_ne e hi exo_tup), upd_ne (ne_of_none hi fr)]; exact hi
/-- a further field -/
theorem fld2 (F : EBok b) (T : Xc X.K b C) (J : Inv X pins σ H s) (e : H a = some (exo a C (some dx))) (ed : H dx = some (exd dx fs)) (hl : fs.length ≤ 900) (hno : PySem.W.takerIn X.K C f = some none) (ry : RelV y u)
    (go : ∀ s', Inv X pins σ (upd H dx (exd dx ((f, y) :: fs))) s' → Q () s') : wpAny (model X.prog X.w) A (setAttr (.ref a) f u) Q E s := by
  obtain ⟨t1, ho⟩ := exo_at J.hok e
  obtain ⟨mA, hns, rl⟩ := exd_at J.hok ed
  have hw := within_of rl
  obtain ⟨hp, g, d, t, os⟩ := s
  obtain ⟨oD, _, _, hoD, _, _⟩ := hns.count hw
  refine PySem.W.set_plain J.kIn (ox := exOb C t1 (some dx)) (od := some oD) ⟨ho, rfl, rfl, hoD⟩ T.sa ?_
  refine sto2 F T J.kIn ho hns hw (by rw [List.length_map]; omega) hno fun h' tk' kp n' => ?_
  obtain ⟨oN, _, _, eN, _⟩ := id n'
  exact go _ (J.write (t' := tk') (x := dx) (e := dx) (o := exd dx ((f, y) :: fs)) (by rw [ed]; exact True.intro) (.inl rfl) kp ⟨oN, eN⟩ (exd_ok n' (relO_put ry rl)))
/-- the builtin's __init__ on it -/
theorem bini {us : List Value} {Q : Value → Shared → Prop} (F : EBok b) (T : Xc X.K b C) (J : Inv X pins σ H s) (e : H a = some (exo a C none)) (hl : us.length ≤ sizeLine) (go : ∀ s', Inv X pins σ H s' → Q .none s') :
    wpAny (model X.prog X.w) A (call (.builtin b.initId) (.ref a :: us)) Q E s := by
  obtain ⟨nm, N, qn, bs, bm, hdct, sn, sub, ab, col, dd, k0, k1, k2, k3, k5, hC, hT⟩ := PySem.W.excInit_of J.kIn T.im
  obtain ⟨t1, ho⟩ := exo_at J.hok e
  obtain ⟨hp, g, d, t, os⟩ := s
  refine wpAny_call (PySem.HandSPX.init_base F.exc hT hC ho hl fun h' t2 kp hx => ?_)
  have J2 := J.write (t' := t) (x := a) (e := a) (o := exo a C none) (by rw [e]; exact True.intro) (.inl rfl) kp ⟨_, hx⟩ (exo_ok hx)
  have same : upd H a (exo a C none) = H := funext fun c => by
    by_cases hc : c = a
    · rw [hc, upd_same, e]
    · rw [upd_ne hc]
  rw [same] at J2
  exact go _ J2
end
/-! ### readings and rules: own exceptions made -/
def tIni (K : PySem.W.Frag) (b : EB) (ta : TA) : TE := fun σ H Q => ta σ H fun vs G => ∃ (a C : Addr) (ws : List V), vs = .ref a :: ws ∧ ws.length ≤ 1000 ∧ Xc K b C ∧ G a = some (exo a C none) ∧ Q .non G
def tFld (K : PySem.W.Frag) (b : EB) (f : Str) (to te : TE) : TS := fun D σ H => te σ H fun y G => to σ G fun x J => ∃ a C : Addr, x = .ref a ∧ Xc K b C ∧ PySem.W.takerIn K C f = some none ∧
  ((J a = some (exo a C none) ∧ ∀ dx, J dx = none → dx ≠ a → D.nx σ (upd (upd J dx (exd dx [(f, y)])) a (exo a C (some dx)))) ∨
    ∃ (dx : Addr) (fs : List (Str × V)), J a = some (exo a C (some dx)) ∧ J dx = some (exd dx fs) ∧ fs.length ≤ 900 ∧ D.nx σ (upd J dx (exd dx ((f, y) :: fs))))
section
variable {X : Cx} {b : EB} {o e : Expr} {es : List Expr} {to te : TE} {ta : TA} {f : Str} {p' p1 p2 pos : Pos} {pl : Sem Bool}
/-- what lies behind both ways to BASE.__init__(self, ..) -/
theorem ini_call (F : EBok b) (ha : PA X (e :: es) ta) {pins : List (Addr × Obj)} {s : Shared} {σ : L2.St} {H : Hp} {Q : VK} (J : Inv X pins σ H s) (h : tIni X.K b ta σ H Q)
    (he : starEach (e :: es) X.env = (false, eval e X.env) :: starEach es X.env) (hpl : (backTo pos (starEach es X.env)).any (·.1) = false) :
    wpAny (model X.prog X.w) X.A (callWith pos (.builtin b.initId) [] (backTo pos (starEach (e :: es) X.env)) []) (EP X pins σ Q) X.xe s := by
  refine PyProof.Rows.callWith_method1 (thn (ha.run pos pins s σ H _ J h) fun us s1 hh => ?_) he hpl
  obtain ⟨vs, G, J1, r1, a, C, ws, ev, hl, T, ea, q⟩ := hh
  subst ev
  cases r1 with
  | @cons _ u0 _ ur ra rr =>
    obtain rfl : u0 = Value.ref a := ra
    have big : ur.length ≤ sizeLine := by rw [← Paired.length rr, sizeLine_eq]; omega
    exact bini F T J1 ea big fun s' J2 => ⟨.non, G, J2, rfl, q⟩
theorem pe_iniB {n : Str} (F : EBok b) (hh : PySem.W.handedIn (.builtin b.initId) = true) (hg : Gl X n) (hm : X.mg n = none) (bo : bootBuiltins n = some (.type b.B)) (ty : typeOf (.type b.B) = pure (.type "type")) (stb : Manifest.isStub b.B = false)
    (vV : PySem.W.findCls X.K (.type b.B) (.type "type") "__init__" = some (.val (.builtin b.initId))) (ha : PA X (e :: es) ta)
    (hc : eval (.Call (.Attribute (.Name n p1) "__init__" p2) (e :: es) [] pos) X.env = (do
      let ov ← eval (.Name n p1) X.env
      standAt p2.atName
      let (f, first) ← holding [ov] (getMethod ov "__init__" pl)
      callWith pos f first (backTo pos (starEach (e :: es) X.env)) (backToKw pos (keywordEach [] X.env))) := by rfl)
    (n1 : n ≠ "__name__" := by decide) (n2 : (n == ("__debug__" : Str)) = false := by decide)
    (he : starEach (e :: es) X.env = (false, eval e X.env) :: starEach es X.env := by rfl) (hpl : (backTo pos (starEach es X.env)).any (·.1) = false := by rfl) :
    PE X (.Call (.Attribute (.Name n p1) "__init__" p2) (e :: es) [] pos) (tIni X.K b ta) := by
  refine ⟨fun pins s σ H Q J h => ?_⟩
  refine PySem.W.methodCall_KW (ld_blt J hg hm bo ?_ n1 n2) hc
  obtain ⟨m, fr⟩ := J.fr
  exact PySem.W.method_type fr J.ok.mod.kin ty stb vV hh (ini_call F ha (J.tok _) h he hpl)
theorem pe_iniC {n : Str} {B0 : Addr} (F : EBok b) (hh : PySem.W.handedIn (.builtin b.initId) = true) (hg : Gl X n) (hm : X.mg n = some (.ref B0)) (hs : PySem.W.specialIn X.K (.ref B0) "__getattribute__" = some (some (.builtin "type.__getattribute__"))) (hr : PySem.W.readsIn X.K B0 (.type "type") = true)
    (vV : PySem.W.findCls X.K (.ref B0) (.type "type") "__init__" = some (.val (.builtin b.initId))) (ha : PA X (e :: es) ta)
    (hc : eval (.Call (.Attribute (.Name n p1) "__init__" p2) (e :: es) [] pos) X.env = (do
      let ov ← eval (.Name n p1) X.env
      standAt p2.atName
      let (f, first) ← holding [ov] (getMethod ov "__init__" pl)
      callWith pos f first (backTo pos (starEach (e :: es) X.env)) (backToKw pos (keywordEach [] X.env))) := by rfl)
    (n2 : (n == ("__debug__" : Str)) = false := by decide)
    (he : starEach (e :: es) X.env = (false, eval e X.env) :: starEach es X.env := by rfl) (hpl : (backTo pos (starEach es X.env)).any (·.1) = false := by rfl) :
    PE X (.Call (.Attribute (.Name n p1) "__init__" p2) (e :: es) [] pos) (tIni X.K b ta) := by
  refine ⟨fun pins s σ H Q J h => ?_⟩
  refine PySem.W.methodCall_KW (ld_glob J hg hm ?_ n2) hc
  exact PySem.W.method_cls J.kIn hs (PySem.W.cls_value J.kIn hr vV hh (ini_call F ha (J.tok _) h he hpl))
/-- self.f = e -/
theorem ps_fld (F : EBok b) (ho : PE X o to) (he : PE X e te) (hs : swapsWith e (some (.Attribute o f p')) pos.line X.env = pure false := by rfl) : PS X (.Assign [.Attribute o f p'] e pos) (tFld X.K b f to te) := by
  refine ⟨fun pins s σ H D J h => ?_⟩
  refine plainObj_wpAny_Assign_Attribute (thn (he.run pins s σ H _ J h) fun v s1 hv => ?_) hs
  obtain ⟨y, G, J1, r1, q1⟩ := hv
  refine thn (ho.run pins s1 σ G _ J1 q1) fun u s2 hu => ?_
  obtain ⟨x, G2, J2, r2, a, C, ex, T, hno, q⟩ := hu
  subst ex
  obtain rfl : u = Value.ref a := r2
  rcases q with ⟨ea, q⟩ | ⟨dx, fs, ea, ed, hl, q⟩
  · exact fld1 F T J2 ea hno r1 fun dx s' n ne J3 => ⟨σ, _, J3, q dx n ne⟩
  · exact fld2 F T J2 ea ed hl hno r1 fun s' J3 => ⟨σ, _, J3, q⟩
end
/-- what __init__(self, v) with the one field f keeps -/
def sp_in1 (C : Addr) (f : Str) : Sp := fun vs H Q _ => ∃ (a : Addr) (v : V), vs = [.ref a, v] ∧ H a = some (exo a C none) ∧ ∀ dx, H dx = none → dx ≠ a → Q .non (upd (upd H dx (exd dx [(f, v)])) a (exo a C (some dx)))
/-- with two fields -/
def sp_in2 (C : Addr) (f f2 : Str) : Sp := fun vs H Q _ => ∃ (a : Addr) (v v2 : V), vs = [.ref a, v, v2] ∧ H a = some (exo a C none) ∧
  ∀ dx, H dx = none → dx ≠ a → Q .non (upd (upd (upd H dx (exd dx [(f, v)])) a (exo a C (some dx))) dx (exd dx [(f2, v2), (f, v)]))
section
variable {X : Cx} {e : Expr} {es : List Expr} {ta : TA} {f f2 : Str} {p pos : Pos}
theorem pmk_x {CX : CXT} {x : Str} {b : EB} {C fI : Addr} {k : Nat} {fd : FuncData} {ps : List Str} {sp : Sp} (F : EBok b) (T : Xc X.K b C) (iC : PySem.W.findIn X.K (.ref C) "__init__" = some (some (.ref fI))) (tI : PySem.W.typeIn X.K (.ref fI) = some (.type "function"))
    (G1 : FnG X.prog X.w X.K X.mg X.base CX k fI fd ps sp) (hr : RoomG (k + 1) X.A) (hb : Binds X.K fd ps []) (hx : Passes CX X (fun _ _ _ => False)) (hg : Gl X x) (hm : X.mg x = some (.ref C)) (ha : PA X (e :: es) ta)
    (n2 : (x == ("__debug__" : Str)) = false := by decide) (he : starEach (e :: es) X.env = (false, eval e X.env) :: starEach es X.env := by rfl) (hpl : (backTo pos (starEach es X.env)).any (·.1) = false := by rfl) :
    PMk X (.Call (.Name x p) (e :: es) [] pos) (tMkO C sp [] ta) := by
  intro pins s σ H Q J h
  refine wpAny_Call_Name_kw (ld_glob J hg hm ?_ n2)
  refine PySem.W.callWith_K (h₀ := X.base) J.ok.mod.kin T.kC (thn (ha.run pos pins s σ H _ J h) fun us s1 hh => ?_) he hpl
  obtain ⟨vs, H1, J1, r1, hz, q1⟩ := hh
  refine ⟨J1.kIn, ?_⟩
  show wpAny _ _ (call (.ref C) us) _ _ _
  obtain ⟨nm, N, qn, bs, bm, hdct, sn, sub, ab, col, dd, k0, k1, k2, k3, k5, hC, hT⟩ := PySem.W.excInit_of J1.kIn T.im
  obtain ⟨hp, g, dr, tk, os⟩ := s1
  have up1 : hp.objs.size ≤ hp.objs.size + 1 := Nat.le_succ _
  have hq := q1 (hp.objs.size + 1) (J1.hok.fresh up1)
  have kp : ∀ c o, hp.get? c = some o → ((hp.push (PySem.W.kdv_tup us)).push (PySem.HandSPX.excO C hp.objs.size)).get? c = some o := fun c o z => Heap.get?_push_of_some _ (Heap.get?_push_of_some _ z)
  have at1 : ((hp.push (PySem.W.kdv_tup us)).push (PySem.HandSPX.excO C hp.objs.size)).get? (hp.objs.size + 1) = some (PySem.HandSPX.excO C hp.objs.size) := by heap_get
  have J2 := J1.laid (t' := tk) (a := hp.objs.size + 1) (o := exo (hp.objs.size + 1) C none) kp up1 (exo_ok at1)
  have r2 : Vals (V.ref (hp.objs.size + 1) :: (vs ++ [])) (Value.ref (hp.objs.size + 1) :: (us ++ [])) := .cons rfl (r1.append .nil)
  have el : (Value.ref (hp.objs.size + 1) :: us ++ []).length = ps.length := by
    have z := r2.length
    rw [G1.many _ _ _ _ hq] at z
    exact z.symm
  have eu : us.length ≤ sizeLine := by rw [← Paired.length r1, sizeLine_eq]; omega
  refine wpAny_call (PySem.HandSPX.call_own F.exc hT hC (PySem.W.looks_findIn J1.kIn iC) (fun self => PySem.W.bind_fn J1.kIn self tI) eu ?_)
  have bd := hb ⟨(hp.push (PySem.W.kdv_tup us)).push (PySem.HandSPX.excO C hp.objs.size), g, dr, tk, os⟩ (Value.ref (hp.objs.size + 1) :: us) J2.kIn el
  rw [List.append_nil] at bd r2 hq
  rw [List.append_nil] at r2
  refine codeAny_mono (G1.goes _ X.stack _ _ ⟨Value.ref (hp.objs.size + 1) :: us, []⟩ (Value.ref (hp.objs.size + 1) :: us) _ _ (fun _ _ _ => False) (hr.make C us []) (J2.env0.make C us []) bd r2 hq) fun r s' hq' => ?_
  cases r with
  | error er => exact hx pins σ _ _ er s' J2 hq'
  | ok fl =>
    cases fl with
    | next => exact hq'.elim
    | brk => exact hq'.elim
    | cont => exact hq'.elim
    | ret u =>
      obtain ⟨v, H2, os2, bare2, un2, hok2, rv, ev, d, fs, ea, ed, hd1, q2⟩ := hq'
      subst ev
      obtain ⟨h2, g2, d2, t2, os'⟩ := s'
      exact ⟨rv, mk_end (raises_own T.exC T.tyC) J1 up1 kp un2 hok2 os2 bare2 ea ed hd1 q2⟩
theorem g_mkO {C : Addr} {sp : Sp} {ta : TA} {σ : L2.St} {H : Hp} {Q : XK} (h : ta σ H fun vs G => vs.length ≤ 1000 ∧ ∀ a, G a = none → sp (.ref a :: (vs ++ [])) (upd G a (exo a C none))
    (fun v J => v = .non ∧ ∃ (d : Addr) (fs : List (Str × V)), J a = some (exo a C (some d)) ∧ J d = some (exd d fs) ∧ G d = none ∧ Q (.ref C) (some d) (upd (del J a) d (.xd fs))) (fun _ _ _ => False)) : tMkO C sp [] ta σ H Q := h
theorem g_mk1 {C : Addr} {v : V} {G : Hp} {Q : XK} (q : ∀ d, G d = none → Q (.ref C) (some d) (upd G d (.xd [(f, v)]))) : ([v] : List V).length ≤ 1000 ∧ ∀ a, G a = none → sp_in1 C f (.ref a :: ([v] ++ [])) (upd G a (exo a C none))
    (fun v J => v = .non ∧ ∃ (d : Addr) (fs : List (Str × V)), J a = some (exo a C (some d)) ∧ J d = some (exd d fs) ∧ G d = none ∧ Q (.ref C) (some d) (upd (del J a) d (.xd fs))) (fun _ _ _ => False) := by
  refine ⟨by simp, fun a na => ⟨a, v, rfl, upd_same, fun dx nd ne => ⟨rfl, dx, [(f, v)], upd_same, by rw [upd_ne ne, upd_same], ?_, ?_⟩⟩⟩
  · rw [upd_ne ne] at nd; exact nd
  · rw [upd_ne ne] at nd
    have z : upd (del (upd (upd (upd G a (exo a C none)) dx (exd dx [(f, v)])) a (exo a C (some dx))) a) dx (.xd [(f, v)]) = upd G dx (.xd [(f, v)]) := funext fun c => by
      by_cases c1 : c = dx
      · rw [c1, upd_same, upd_same]
      · rw [upd_ne c1, upd_ne c1]
        by_cases c2 : c = a
        · rw [c2, del_same, na]
        · rw [del_ne c2, upd_ne c2, upd_ne c1, upd_ne c2]
    rw [z]; exact q dx nd
theorem g_mk2 {C : Addr} {v v2 : V} {G : Hp} {Q : XK} (q : ∀ d, G d = none → Q (.ref C) (some d) (upd G d (.xd [(f2, v2), (f, v)]))) : ([v, v2] : List V).length ≤ 1000 ∧ ∀ a, G a = none → sp_in2 C f f2 (.ref a :: ([v, v2] ++ [])) (upd G a (exo a C none))
    (fun v J => v = .non ∧ ∃ (d : Addr) (fs : List (Str × V)), J a = some (exo a C (some d)) ∧ J d = some (exd d fs) ∧ G d = none ∧ Q (.ref C) (some d) (upd (del J a) d (.xd fs))) (fun _ _ _ => False) := by
  refine ⟨by simp, fun a na => ⟨a, v, v2, rfl, upd_same, fun dx nd ne => ⟨rfl, dx, [(f2, v2), (f, v)], by rw [upd_ne (Ne.symm ne), upd_same], upd_same, ?_, ?_⟩⟩⟩
  · rw [upd_ne ne] at nd; exact nd
  · rw [upd_ne ne] at nd
    have z : upd (del (upd (upd (upd (upd G a (exo a C none)) dx (exd dx [(f, v)])) a (exo a C (some dx))) dx (exd dx [(f2, v2), (f, v)])) a) dx (.xd [(f2, v2), (f, v)]) = upd G dx (.xd [(f2, v2), (f, v)]) := funext fun c => by
      by_cases c1 : c = dx
      · rw [c1, upd_same, upd_same]
      · rw [upd_ne c1, upd_ne c1]
        by_cases c2 : c = a
        · rw [c2, del_same, na]
        · rw [del_ne c2, upd_ne c1, upd_ne c2, upd_ne c1, upd_ne c2]
    rw [z]; exact q dx nd
end
/-! ### try: .. except A as e: .. except B as e: .. -/
abbrev Clause := Value × Option Nat × (Addr → Value → Option Addr → TS)
def endAs (D : Ends) (i : Nat) : Ends :=
  let z : (L2.St → Hp → Prop) → L2.St → Hp → Prop := fun k τ G => k (τ.set i none) G
  { nx := z D.nx, rt := D.rt, bk := z D.bk, ct := z D.ct }
def clauseRun (D : Ends) (oi : Option Nat) (t : TS) (a : Addr) (σ : L2.St) (H : Hp) : Prop :=
  match oi with
  | none => t D σ H
  | some i => t (endAs D i) (σ.set i (some (.ref a))) H
def wN (K : PySem.W.Frag) (Wo : WX) (D : Ends) : List Clause → WX
  | [] => Wo
  | (c, oi, ts) :: l => fun cls d σ H => ∃ yes, PySem.W.exmOne K cls c = some yes ∧ (yes = true → ∀ a, H a = none → clauseRun D oi (ts a cls d) a σ H) ∧ (yes = false → wN K Wo D l cls d σ H)
inductive Hnd (X : Cx) : List ExceptHandler → List Clause → Prop
  | nil : Hnd X [] []
  | bare {x : Str} {c : Value} {ts : Addr → Value → Option Addr → TS} {q : Stmt} {qs : List Stmt} {p1 p2 : Pos} {hs : List ExceptHandler} {l : List Clause} (nm : Names X x c)
      (run : ∀ (a : Addr) (oe : Obj) (cls : Value) (d : Option Addr) (pn : List (Addr × Obj)), Zc cls d oe → (∃ vs, oe.data = .fields vs) → PSs (X.suite a ((a, oe) :: pn)) (q :: qs) (ts a cls d)) (r : Hnd X hs l) :
      Hnd X (.ExceptHandler (some (.Name x p1)) none (q :: qs) p2 :: hs) ((c, none, ts) :: l)
  | as {x n : Str} {i : Nat} {c : Value} {ts : Addr → Value → Option Addr → TS} {q : Stmt} {qs : List Stmt} {p1 p2 : Pos} {hs : List ExceptHandler} {l : List Clause} (nm : Names X x c) (nd : X.N.Nodup) (hi : X.N[i]? = some n) (hl : X.env.kindOf n = some .local)
      (run : ∀ (a : Addr) (oe : Obj) (cls : Value) (d : Option Addr) (pn : List (Addr × Obj)), Zc cls d oe → (∃ vs, oe.data = .fields vs) → PSs (X.suite a ((a, oe) :: pn)) (q :: qs) (ts a cls d)) (r : Hnd X hs l) :
      Hnd X (.ExceptHandler (some (.Name x p1)) (some n) (q :: qs) p2 :: hs) ((c, some i, ts) :: l)
section
variable {X : Cx} {body : List Stmt} {h1 : ExceptHandler} {hs : List ExceptHandler} {l : List Clause} {pos : Pos} {tb : WX → TS} {Wo : WX}
theorem ps_tryN (st : X.stack = X.env :: X.outer) (fr : X.env.frame = some X.env.locals) (tk : Takes X Wo)
    (hb : ∀ (W : WX) (pn : List (Addr × Obj)) (xe : Value → Shared → Prop), Takes (X.tr pn xe) W → PassesOwn (model X.prog X.w) X.A X.env xe → PSs (X.tr pn xe) body (tb W)) (hh : Hnd X (h1 :: hs) l) : PS X (.Try body (h1 :: hs) [] [] pos) (fun D σ H => tb (wN X.K Wo D l) D σ H) := by
  refine ⟨fun pins s σ H D J h => ?_⟩
  have ok := J.ok
  have fr2 : X.A.frames = some (X.env :: X.outer) := by rw [ok.frames, st]
  let catch_ : Value → Shared → Prop := fun e s₁ => wpAny (model X.prog X.w) X.A (noteFrame e X.env) (fun _ s₂ =>
    wpAny (model X.prog X.w) X.A (setFlight e none) (fun _ s₃ => wpAny (model X.prog X.w) X.A (handleBy e X.env (h1 :: hs)) (SP X pins D) X.xe s₃) X.xe s₂) X.xe s₁
  refine wpAny_Try_except ?_
  refine wpAny_mono ((hb (wN X.K Wo D l) (X.pn ++ pins) catch_ ?tk PassesOwn.looking).run [] s σ H D (J.toTry _) h) ?fine fun _ _ z => z
  case fine =>
    intro f s1 sp
    cases f with
    | ret u => obtain ⟨v, τ, G, J1, r, q⟩ := sp; exact ⟨v, τ, G, J1.ofTry ok, r, q⟩
    | next => obtain ⟨τ, G, J1, q⟩ := sp; exact wpAny_execs_nil ⟨τ, G, J1.ofTry ok, q⟩
    | brk => obtain ⟨τ, G, J1, q⟩ := sp; exact ⟨τ, G, J1.ofTry ok, q⟩
    | cont => obtain ⟨τ, G, J1, q⟩ := sp; exact ⟨τ, G, J1.ofTry ok, q⟩
  case tk =>
    intro u s' xx
    obtain ⟨a, B, sI, pins', σ', H', cls, d, rfl, J', nb, up, sky, na, os, ag, w⟩ := xx
    have J0 : Inv X pins σ' H' sI := J'.ofTry ok
    rw [show (X.tr (X.pn ++ pins) catch_).stack = X.env :: X.outer from st] at sky
    show wpAny (model X.prog X.w) X.A (noteFrame (.ref a) X.env) _ _ _
    refine Sky.land Zc.steady fr2 fr sky fun k3 fl3 up3 => ?_
    have J3 : Inv X pins σ' H' { s' with heap := k3 } := J0.landed nb fl3.1 (up.trans up3) os ag
    obtain ⟨o3, v3, e3, z3, d3⟩ := fl3.there
    have out : a ∉ frs (X.env :: X.outer) := fun hm => by
      obtain ⟨_, o', e', hn⟩ := fl3.2.2.1.mem hm
      rw [e3] at e'; cases e'
      exact hn _ d3
    have nL : a ≠ X.env.locals := fun z => out (List.mem_filterMap.mpr ⟨X.env, List.mem_cons_self, by rw [fr, z]⟩)
    have nF : a ∉ X.fs := fun hm => by
      obtain ⟨e, he, q⟩ := List.mem_filterMap.mp hm
      exact out (List.mem_filterMap.mpr ⟨e, List.mem_cons_of_mem _ he, q⟩)
    have S3 := J3.suite e3 d3 na nL nF
    have ask : ∀ {x : Str} {c : Value} {np : Pos} {Q : Value → Shared → Prop} {E : Value → Shared → Prop}, Names X x c → Q c { s' with heap := k3 } → wpAny (model X.prog X.w) (X.A.mark (some (.ref a))) (eval (.Name x np) X.env) Q E { s' with heap := k3 } := by
      intro x c np Q E nm q
      obtain ⟨hg, hdbg, hm | ⟨hm, hv, hnn⟩⟩ := nm
      · exact ld_glob (X := X.suite a ((a, o3) :: (X.pn ++ pins))) S3 hg hm q hdbg
      · exact ld_blt (X := X.suite a ((a, o3) :: (X.pn ++ pins))) S3 hg hm hv q hnn hdbg
    have ty3 : PySem.W.Looks (model X.prog X.w) k3 (typeOf (.ref a)) cls := fun A Q E s k q => wpAny_typeOf_ref (k _ _ e3) (by rw [z3.1]; exact q)
    have all : ∀ {hs' : List ExceptHandler} {l' : List Clause}, Hnd X hs' l' → wN X.K Wo D l' cls d σ' H' → wpAny (model X.prog X.w) X.A (handleBy (.ref a) X.env hs') (SP X pins D) X.xe { s' with heap := k3 } := by
      intro hs' l' hk
      induction hk with
      | nil =>
        intro w
        refine wpAny_handleBy_nil ?_
        obtain ⟨_, _, _, oe, vs, T, oT, ts', he, hz, hd, hv1, hr⟩ := id fl3
        unfold PySem.passOn
        refine wpAny_bind (wpAny_field he hd hv1 ?_)
        rw [if_neg (show ¬ ((Value.ref T == Value.none) = true) from by simp)]
        have last : wpAny (model X.prog X.w) X.A (setFlight (.ref a) X.env.frame) (fun _ s4 => wpAny (model X.prog X.w) X.A (throw (.ref a) : Sem Flow) (SP X pins D) X.xe s4) X.xe { s' with heap := k3 } := by
          rw [fr]
          refine HandSPX.setFlight_upZ fl3 fun k4 hk4 up4 => wpAny_throw (tk _ _ ?_)
          exact ⟨a, B, sI, pins, σ', H', cls, d, rfl, J0, nb, (up.trans up3).trans up4, .inr (.inr (by rw [st]; exact hk4)), na, os, ag, w⟩
        first
          | exact wpAny_bind (wpAny_pure (wpAny_bind last))
          | exact wpAny_bind last
      | @bare x c ts q qs p1 p2 hs2 l2 nm run r ih =>
        intro w
        obtain ⟨yes, hy, w1, w2⟩ := w
        refine wpAny_handleBy_cons (codeAny_handlers_test ?_) (by intro q; cases q)
        refine ask nm ((PySem.W.exm_one (M := model X.prog X.w) J3.kIn ty3 hy).here ?_)
        cases yes with
        | false => exact ih (w2 rfl)
        | true =>
          refine codeAny_handlers_suite ?_
          refine HandSPX.lands_againZ fl3 fun k4 fl4 up4 => ?_
          have J4 : Inv X pins σ' H' { s' with heap := k4 } := J0.landed nb fl4.1 ((up.trans up3).trans up4) os ag
          obtain ⟨o4, v4, e4, z4, d4⟩ := fl4.there
          have S4 := J4.suite e4 d4 na nL nF
          refine wpAny_mono ((run a o4 cls d (X.pn ++ pins) z4 ⟨_, d4⟩).run [] _ _ H' _ S4 (w1 rfl a na)) (fun f s6 sp => ?_) (fun _ _ z => False.elim z)
          cases f with
          | ret u => obtain ⟨v6, τ, G, S6, r6, q6⟩ := sp; exact ⟨_, _, _, S6.unsuite ok, r6, q6⟩
          | next => obtain ⟨τ, G, S6, q6⟩ := sp; exact ⟨_, _, S6.unsuite ok, q6⟩
          | brk => obtain ⟨τ, G, S6, q6⟩ := sp; exact ⟨_, _, S6.unsuite ok, q6⟩
          | cont => obtain ⟨τ, G, S6, q6⟩ := sp; exact ⟨_, _, S6.unsuite ok, q6⟩
      | @as x n i c ts q qs p1 p2 hs2 l2 nm nd hi hl run r ih =>
        intro w
        obtain ⟨yes, hy, w1, w2⟩ := w
        refine wpAny_handleBy_cons (codeAny_handlers_test ?_) (by intro q; cases q)
        refine ask nm ((PySem.W.exm_one (M := model X.prog X.w) J3.kIn ty3 hy).here ?_)
        cases yes with
        | false => exact ih (w2 rfl)
        | true =>
          refine codeAny_handlers_suite_as ?_
          refine HandSPX.lands_againZ fl3 fun k4 fl4 up4 => ?_
          have J4 : Inv X pins σ' H' { s' with heap := k4 } := J0.landed nb fl4.1 ((up.trans up3).trans up4) os ag
          obtain ⟨o4, v4, e4, z4, d4⟩ := fl4.there
          have S4 := J4.suite e4 d4 na nL nF
          refine store_ok (X := X.suite a ((a, o4) :: (X.pn ++ pins))) (v := .ref a) S4 nd hi (Or.inl hl) rfl (fun s5 S5 => ?_) (.inr hl)
          refine wpAny_mono ((run a o4 cls d (X.pn ++ pins) z4 ⟨_, d4⟩).run [] s5 _ H' _ S5 (w1 rfl a na)) (fun f s6 sp => ?_) (fun _ _ z => False.elim z)
          have fin : ∀ {τ : L2.St} {G : Hp} {Q : Shared → Prop}, Inv (X.suite a ((a, o4) :: (X.pn ++ pins))) [] τ G s6 → (∀ s7, Inv X pins (τ.set i none) G s7 → Q s7) →
              wpAny (model X.prog X.w) X.A (do bindName X.env n .none; unbindBehindTheSuite X.env n p2) (fun _ s7 => Q s7) X.xe s6 := fun S6 hq => gone_ok (S6.unsuite ok) nd hi hl hq
          cases f with
          | ret u => obtain ⟨v6, τ, G, S6, r6, q6⟩ := sp; exact fin S6 fun s7 J7 => ⟨_, _, _, J7, r6, q6⟩
          | next => obtain ⟨τ, G, S6, q6⟩ := sp; exact fin S6 fun s7 J7 => ⟨_, _, J7, q6⟩
          | brk => obtain ⟨τ, G, S6, q6⟩ := sp; exact fin S6 fun s7 J7 => ⟨_, _, J7, q6⟩
          | cont => obtain ⟨τ, G, S6, q6⟩ := sp; exact fin S6 fun s7 J7 => ⟨_, _, J7, q6⟩
    exact all hh w
end
/-! ### in a suite: isinstance(e, c), e.f -/
def rIsX (K : PySem.W.Frag) (D a : Addr) (cls : Value) (d : Option Addr) : List V → Hp → VK → Prop := fun xs G Q => ∃ (c : V) (cv : Value) (ans : Bool) (dd : Addr) (fs : List (Str × V)), xs = [.ref a, c] ∧ cls = .ref D ∧ (∀ u, RelV c u → u = cv) ∧ PySem.W.kitOne K (.ref D) cv = some ans ∧ d = some dd ∧ G dd = some (.xd fs) ∧ Q (.bl ans) G
theorem call_isX {X : Cx} {b : EB} {a D : Addr} {oe : Obj} {cls : Value} {d : Option Addr} {pn : List (Addr × Obj)} (T : Xc X.K b D) (hz : Zc cls d oe) (hf : ∃ vs, oe.data = .fields vs) : CallR (X.suite a ((a, oe) :: pn)) (.builtin "isinstance") (rIsX X.K D a cls d) := by
  intro pins s σ H xs us Q J r h
  obtain ⟨c, cv, ans, dd, fs, rfl, rfl, hcv, e, rfl, hx, q⟩ := h
  cases r with
  | cons rx rr =>
    cases rr with
    | cons rt rr =>
      cases rr
      cases rx
      cases hcv _ rt
      obtain ⟨at1, _⟩ := J.pin (a, oe) (List.mem_append.mpr (.inl List.mem_cons_self))
      obtain ⟨vs, hv⟩ := hf
      obtain ⟨mA, hns, hr⟩ : ObjOk X.prog X.w H s.heap dd (.xd fs) := J.hok dd _ hx
      obtain ⟨od, ho, _⟩ := lookIn_ns hns
      have I : PySem.W.InstAt s.heap a oe D (some od) := ⟨at1, hz.1, by unfold PySem.W.notCls; rw [hv] <;> rfl, by rw [hz.2]; exact ho⟩
      have hcl : (PySem.W.clsIn X.K D).isSome = true := by
        obtain ⟨cd, hc, _⟩ := PySem.W.any_some T.hd
        rw [hc]; rfl
      exact PySem.W.kia_one (PySem.W.kitx_exc hcl T.ga T.gg T.exC T.cl T.gs T.tk T.mo) J.kIn I e (fun z => nomatch z) fun tk => ⟨.bl ans, H, J.kept (t' := tk) fun _ _ z => z, rfl, q⟩
theorem g_xf {a : Addr} {cls : Value} {d : Option Addr} {C : Addr} {f : Str} {te : TE} {σ : L2.St} {H : Hp} {Q : VK} (h : te σ H fun x G => x = .ref a ∧ cls = .ref C ∧ ∃ (dd : Addr) (fs : List (Str × V)) (v : V), d = some dd ∧ G dd = some (.xd fs) ∧ fs.lookup f = some v ∧ Q v G) : tXf a cls d C f te σ H Q := h
theorem g_xf1 {a C dd : Addr} {f : Str} {v : V} {G : Hp} {R : V → Prop} (hd : G dd = some (.xd [(f, v)])) (q : R v) : V.ref a = .ref a ∧ Value.ref C = .ref C ∧ ∃ (d2 : Addr) (fs : List (Str × V)) (v2 : V), some dd = some d2 ∧ G d2 = some (.xd fs) ∧ fs.lookup f = some v2 ∧ R v2 :=
  ⟨rfl, rfl, dd, _, v, rfl, hd, by simp [List.lookup], q⟩
theorem g_ini {K : PySem.W.Frag} {b : EB} {ta : TA} {σ : L2.St} {H : Hp} {Q : VK} (h : ta σ H fun vs G => ∃ (a C : Addr) (ws : List V), vs = .ref a :: ws ∧ ws.length ≤ 1000 ∧ Xc K b C ∧ G a = some (exo a C none) ∧ Q .non G) : tIni K b ta σ H Q := h
theorem g_sfld {K : PySem.W.Frag} {b : EB} {f : Str} {to te : TE} {D : Ends} {σ : L2.St} {H : Hp} (h : te σ H fun y G => to σ G fun x J => ∃ a C : Addr, x = .ref a ∧ Xc K b C ∧ PySem.W.takerIn K C f = some none ∧
  ((J a = some (exo a C none) ∧ ∀ dx, J dx = none → dx ≠ a → D.nx σ (upd (upd J dx (exd dx [(f, y)])) a (exo a C (some dx)))) ∨
    ∃ (dx : Addr) (fs : List (Str × V)), J a = some (exo a C (some dx)) ∧ J dx = some (exd dx fs) ∧ fs.length ≤ 900 ∧ D.nx σ (upd J dx (exd dx ((f, y) :: fs))))) : tFld K b f to te D σ H := h
theorem taker_of {K : PySem.W.Frag} {C : Addr} {f : Str} (h : PySem.W.findIn K (.ref C) f = some none) : PySem.W.takerIn K C f = some none := by unfold PySem.W.takerIn; rw [h]; rfl
theorem g_clause {D : Ends} {i : Nat} {t : TS} {a : Addr} {σ : L2.St} {H : Hp} (h : t (endAs D i) (σ.set i (some (.ref a))) H) : clauseRun D (some i) t a σ H := h
theorem g_clause0 {D : Ends} {t : TS} {a : Addr} {σ : L2.St} {H : Hp} (h : t D σ H) : clauseRun D none t a σ H := h
/-- the clause that takes it; one that does not -/
theorem wn_yes {K : PySem.W.Frag} {Wo : WX} {D : Ends} {c : Value} {oi : Option Nat} {ts : Addr → Value → Option Addr → TS} {l : List Clause} {cls : Value} {d : Option Addr} {σ : L2.St} {H : Hp} (e : PySem.W.exmOne K cls c = some true)
    (h : ∀ a, H a = none → clauseRun D oi (ts a cls d) a σ H) : wN K Wo D ((c, oi, ts) :: l) cls d σ H := ⟨true, e, fun _ => h, fun z => by cases z⟩
theorem wn_no {K : PySem.W.Frag} {Wo : WX} {D : Ends} {c : Value} {oi : Option Nat} {ts : Addr → Value → Option Addr → TS} {l : List Clause} {cls : Value} {d : Option Addr} {σ : L2.St} {H : Hp} (e : PySem.W.exmOne K cls c = some false)
    (h : wN K Wo D l cls d σ H) : wN K Wo D ((c, oi, ts) :: l) cls d σ H := ⟨false, e, (fun z => nomatch z), fun _ => h⟩
end Hx

namespace PySem
open AutoSeq1 (wpAny_loadPart')
theorem hx_enum_new (l : Addr) (items : Array Value) (n : Nat) (dct : Option Addr) (sl : Array (Option Value)) :
    Meets (Builtin.«enumerate.__new__» ⟨[.type "enumerate", .ref l], []⟩) (fun _ R s => s.heap.get? l = some { cls := .type "tuple", dict := dct, data := .seq items n, slots := sl } ∧
      R (.ok (.ret (.ref (s.heap.push { cls := .type "tuple_iterator", data := .fields #[.ref l, .int 0 0] }).objs.size)))
        { s with heap := (s.heap.push { cls := .type "tuple_iterator", data := .fields #[.ref l, .int 0 0] }).push { cls := .type "enumerate", data := .fields #[.none, .bool false, .ref s.heap.objs.size, rawInt 0, .none, .none] } }) :=
  .of_wp fun prog w A R s h => by
    obtain ⟨hp, g, d, tk, os⟩ := s
    obtain ⟨ht, h⟩ := h
    have sub := sub_enumerate
    have T : Heap.IsTuple (Shared.heap ⟨hp, g, d, tk, os⟩) l items := ⟨_, ht, rfl, n, rfl⟩
    wp_walk using wpAny_loadPart' ht
    refine wpAny_stack_any fun st => wpAny_pure ?_
    split
    · rename_i c _ _ _ _ _
      cases (c == Value.type "enumerate") <;> (wp_walk using wpAny_loadPart' ht, wpAny_pyIter_tuple T) <;> exact ⟨_, rfl, h⟩
    · wp_walk using wpAny_loadPart' ht, wpAny_pyIter_tuple T
      exact ⟨_, rfl, h⟩
theorem hx_enum_call {prog : Program} {w : World} {A : Around} {E : Value → Shared → Prop} {s : Shared} {l : Addr} {items : Array Value} {Q : Value → Shared → Prop} (T : s.heap.IsTuple l items)
    (h : ∀ h', IsEnum h' (s.heap.objs.size + 1) s.heap.objs.size 0 .none → h'.IsTupleIter s.heap.objs.size l 0 → h'.objs.size = s.heap.objs.size + 2 → (∀ b o, s.heap.get? b = some o → h'.get? b = some o) → Q (.ref (s.heap.objs.size + 1)) { s with heap := h' }) :
    wpAny (model prog w) A (call (.type "enumerate") [.ref l]) Q E s := by
  obtain ⟨⟨c, dct, dt, sl⟩, hl, rfl, n, rfl⟩ := T
  refine callType_new F.called_enumerate (by decide) (F.typeCall_enumerate_1 _) (F.newCall_enumerate_1 _) (fun obj => F.args_object_init_2 obj _) F.entry_enumerate_new (hx_enum_new l items n dct sl) ⟨hl, ?_⟩
  have z : (s.heap.push { cls := .type "tuple_iterator", data := .fields #[.ref l, .int 0 0] }).objs.size = s.heap.objs.size + 1 := Heap.size_push ..
  show _ ∧ _
  rw [z]
  have E1 : IsEnum ((s.heap.push { cls := .type "tuple_iterator", data := .fields #[.ref l, .int 0 0] }).push { cls := .type "enumerate", data := .fields #[.none, .bool false, .ref s.heap.objs.size, rawInt 0, .none, .none] })
      (s.heap.objs.size + 1) s.heap.objs.size 0 .none := by
    have y := Heap.get?_push_size (s.heap.push { cls := .type "tuple_iterator", data := .fields #[.ref l, .int 0 0] }) (o := { cls := .type "enumerate", data := .fields #[.none, .bool false, .ref s.heap.objs.size, rawInt 0, .none, .none] }) rfl
    rw [z] at y
    exact y
  exact ⟨⟨_, E1, rfl⟩, h _ E1 ⟨_, Heap.get?_push_of_some _ (Heap.get?_push_size _ rfl), rfl, rfl⟩ (by rw [Heap.size_push, z]) fun b o x => Heap.get?_push_of_some _ (Heap.get?_push_of_some _ x)⟩
end PySem
namespace Hx
open PySem PySem.Spec PyProof.Rows L2
/-! ### enumerate of a tuple -/
def IteT (K : PySem.W.Frag) (a : Addr) : It :=
  ⟨fun i H => ∃ (xs : List V) (x : V), SqT K H a xs ∧ xs[i]? = some x, fun i H v H' => ∃ T x, v = .ref T ∧ H T = none ∧ H' = upd H T (.tup [.int (i : Nat), x]) ∧ ∀ xs, SqT K H a xs → xs[i]? = some x, fun i H => ∃ xs : List V, SqT K H a xs ∧ xs.length ≤ i⟩
theorem turn_enT {P : Program} {w : World} {K : PySem.W.Frag} {elts : List Expr} {kk : Nat} {tpos : Pos} (a e it : Addr) :
    Turn P w K (.Tuple elts kk tpos) (IteT K a) [e, it] e (fun i h => (∃ old, IsEnum h e it ((i : Nat) : Int) old) ∧ h.IsTupleIter it a i ∧ e ≠ it ∧ e ≠ a ∧ a ≠ it) where
  mem := by simp
  obj := fun i h st b hb => by
    obtain ⟨⟨old, he⟩, ⟨o, ho, hc, hd⟩, _⟩ := st
    rcases (show b = e ∨ b = it by simpa using hb) with z | z
    · rw [z]; exact ⟨_, he, fun v q => nomatch q⟩
    · rw [z]; exact ⟨o, ho, fun v q => by rw [hd] at q; cases q⟩
  keep := fun i h h' st k => let ⟨⟨old, he⟩, hi, hne⟩ := st; ⟨⟨old, k e (by simp) _ he⟩, hi.at fun o q => k it (by simp) o q, hne⟩
  item := by
    intro X hP hw hK hc i pins s σ H E I hf st hg
    subst hP hw hK
    obtain ⟨⟨old, he⟩, hit, n1, n2, n3⟩ := st
    obtain ⟨xs, x, hq, hx⟩ := hg
    obtain ⟨its, rv, p, hz⟩ := I.tuple hq
    obtain ⟨u, hu, ru⟩ := rv.get hx
    have le : e < s.heap.objs.size := Heap.lt_size he
    have li : it < s.heap.objs.size := by obtain ⟨_, q, _⟩ := hit; exact Heap.lt_size q
    have lt : i < its.toArray.size := by
      have := (List.getElem?_eq_some_iff.mp hu).1
      simpa using this
    refine wpAny_pyNext_enum_itemD (Draws.tuple (A := X.A.in1) (I.ok.hd hc) it a n3 its.toArray) he ⟨hit, p⟩ lt n1 (by simp [n1, n2]) fun x' h' tk hP ho st2 hT hsz hk => ?_
    obtain rfl : x' = u := Option.some.inj (hP.symm.trans (by simpa using hu))
    refine ⟨_, rfl, wpAny_letOwnedTupleGo_enum (s := { s with heap := h', toks := tk + 1 }) ho fun h'' he' sb => ?_⟩
    have hT2 : h''.get? s.heap.objs.size = some { cls := .type "tuple", data := .seq #[.int i tk, x'] } := (sb.2 _ (Nat.ne_of_gt le)).trans hT
    have new : ObjOk X.prog X.w (upd H s.heap.objs.size (.tup [.int (i : Nat), x])) h'' s.heap.objs.size (.tup [.int (i : Nat), x]) :=
      ⟨by show 2 ≤ sizeLine; decide, [.int i tk, x'], .cons ⟨_, rfl⟩ (.cons ru .nil), ⟨_, hT2, rfl, _, rfl⟩⟩
    have I1 : Inv X pins σ (upd H s.heap.objs.size (.tup [.int (i : Nat), x])) { s with heap := h'', toks := tk + 1 } :=
      I.turnedNew (ch := [e, it]) (fun b ob hb q => (sb.2 b (fun z => hb (by simp [z]))).trans (hk b ob (fun z => hb (by simp [z])) (fun z => hb (by simp [z])) q)) hf (Nat.le_refl _) new
    refine ⟨.ref s.heap.objs.size, _, I1, rfl, ⟨_, x, rfl, I.hok.fresh (Nat.le_refl _), rfl, fun ys hy => by rw [I.tuple_inj hy hq]; exact hx⟩, ⟨⟨x', ?_⟩, st2.1.at fun o q => (sb.2 it (Ne.symm n1)).trans q, n1, n2, n3⟩, fun b hb => ?_⟩
    · rw [show ((i + 1 : Nat) : Int) = (i : Int) + 1 by omega]; exact he'
    · have lb : b < s.heap.objs.size := by
        rcases (show b = e ∨ b = it by simpa using hb) with z | z
        · rw [z]; exact le
        · rw [z]; exact li
      rw [upd_ne (Nat.ne_of_lt lb)]
      exact (hf b hb).1
  done := by
    intro X hP hw hK hc i pins s σ H E I hf st hg
    subst hP hw hK
    obtain ⟨⟨old, he⟩, hit, n1, n2, n3⟩ := st
    obtain ⟨xs, hq, hx⟩ := hg
    obtain ⟨its, rv, p, hz⟩ := I.tuple hq
    obtain ⟨f0, f1, f2, f3, f4, f5⟩ := hf it (by simp)
    have hl := rv.length
    have st' : s.heap.IsTupleIter it a i ∧ s.heap.IsTuple a its.toArray := ⟨hit, p⟩
    refine wpAny_pyNext_enum_endD (n := its.toArray.size) (i := i) (St := fun j h => h.IsTupleIter it a i ∧ h.IsTuple a its.toArray ∧ j = its.toArray.size) (P := fun _ _ => False) (fp := [it, a]) ?_ he ⟨hit, p, rfl⟩ fun h' eb => ⟨rfl, I.turned (t' := s.toks) (fun b o hb q => eb b o hb q) f0 f1 f3 f4 f5⟩
    exact { live := fun _ _ st => (let ⟨o, ho, _⟩ := st.1; ⟨o, ho⟩), frame := fun _ _ _ st hk => ⟨st.1.at fun o e => hk it (by simp) o e, st.2.1.at fun o e => hk a (by simp) o e, st.2.2⟩,
            item := fun j s Q E hj st hQ => absurd st.2.2 (Nat.ne_of_lt hj),
            done := fun s Q E st hE => wpAny_nextOf_tuple_end (I.ok.hd hc) st.1 st.2.1 (by simp; omega) hE }
  self := fun A i s Q E st h => let ⟨⟨_, he⟩, _⟩ := st; wpAny_pyIter_enum he h
/-- enumerate of a list or of a tuple -/
def iEnA (K : PySem.W.Frag) (ta : TA) : TI := fun σ H R => ta σ H fun vs H1 => (∃ a xs, vs = [.ref a] ∧ SqL K H1 a xs ∧ R (Ite K a) H1) ∨ ∃ a xs, vs = [.ref a] ∧ SqT K H1 a xs ∧ R (IteT K a) H1
theorem pi_enA {X : Cx} {K : PySem.W.Frag} {e : Expr} {ta : TA} {p pos tpos : Pos} {elts : List Expr} {kk : Nat} (hK : X.K = K) (hg : Gl X "enumerate") (hm : X.mg "enumerate" = none) (ha : PA X [e] ta) (hs : starEach [e] X.env = [(false, eval e X.env)] := by rfl) :
    PI X (.Tuple elts kk tpos) (.Call (.Name "enumerate" p) [e] [] pos) (iEnA K ta) := by
  subst hK
  refine ⟨fun pins s σ H R I h => ?_⟩
  refine Call_ (ld_blt I hg hm boot_enumerate (PyProof.Rows.callWith_type1 (thn (ha.run pos pins s σ H _ I h) fun us s1 hh => ?_) hs rfl))
  obtain ⟨vs, H1, I1, r1, q1⟩ := hh
  have fresh2 : ∀ b ∈ [s1.heap.objs.size + 1, s1.heap.objs.size], s1.heap.objs.size ≤ b := fun b hb => by
    rcases (show b = s1.heap.objs.size + 1 ∨ b = s1.heap.objs.size by simpa using hb) with z | z <;> omega
  rcases q1 with ⟨a, xs, rfl, hq, q⟩ | ⟨a, xs, rfl, hq, q⟩
  · cases r1 with
    | cons r rr =>
      cases rr; cases r
      obtain ⟨its, rv, p', hz⟩ := I1.list hq
      refine call_enumerate_list p'.isList fun h' he hit hsz hk => wpAny_pyIter_enum he ?_
      exact ⟨s1.heap.objs.size + 1, [s1.heap.objs.size + 1, s1.heap.objs.size], _, _, H1, rfl, I1.kept (t' := s1.toks) hk, turn_enum a (s1.heap.objs.size + 1) s1.heap.objs.size, ⟨⟨.none, he⟩, hit, Nat.succ_ne_self _⟩,
        fun b hb => I1.fpOk (fresh2 b hb) (I1.hok.fresh (fresh2 b hb)), q⟩
  · cases r1 with
    | cons r rr =>
      cases rr; cases r
      obtain ⟨its, rv, p', hz⟩ := I1.tuple hq
      refine hx_enum_call p' fun h' he hit hsz hk => wpAny_pyIter_enum he ?_
      have la : a < s1.heap.objs.size := by obtain ⟨o, ho, _⟩ := p'; exact Heap.lt_size ho
      exact ⟨s1.heap.objs.size + 1, [s1.heap.objs.size + 1, s1.heap.objs.size], _, _, H1, rfl, I1.kept (t' := s1.toks) hk, turn_enT a (s1.heap.objs.size + 1) s1.heap.objs.size, ⟨⟨.none, he⟩, hit, Nat.succ_ne_self _, Nat.ne_of_gt (Nat.lt_succ_of_lt la), Nat.ne_of_lt la⟩,
        fun b hb => I1.fpOk (fresh2 b hb) (I1.hok.fresh (fresh2 b hb)), q⟩
theorem walk_enT {K : PySem.W.Frag} {a : Addr} {xs : List V} : Walk (IteT K a) xs.length (fun H => SqT K H a xs) (YPair (fun i => some (.int (i : Nat))) (fun i => xs[i]?)) := by
  refine ⟨fun i _ hi q => ⟨xs, xs[i], q, by simp [hi]⟩, fun _ q => ⟨xs, q, Nat.le_refl _⟩, fun i H v H' _ q y => ?_⟩
  obtain ⟨T, x, h1, h2, h3, h4⟩ := y
  exact ⟨T, .int (i : Nat), x, h1, h2, h3, rfl, h4 xs q⟩
theorem g_iEnA {K : PySem.W.Frag} {ta : TA} {σ : L2.St} {H : Hp} {R : It → Hp → Prop} (q : ta σ H fun vs H1 => (∃ a xs, vs = [.ref a] ∧ SqL K H1 a xs ∧ R (Ite K a) H1) ∨ ∃ a xs, vs = [.ref a] ∧ SqT K H1 a xs ∧ R (IteT K a) H1) : iEnA K ta σ H R := q
theorem g_enSq {K : PySem.W.Frag} {H0 H : Hp} {a : Addr} {xs : List V} {ta : TA} {σ : L2.St} {R : It → Hp → Prop} (e : ∀ Q : List V → Hp → Prop, Q [.ref a] H → ta σ H Q) (h : Sq K H0 a xs) (e0 : Same H0 H)
    (q : ∀ J G, Walk J xs.length G (YPair (fun i => some (.int (i : Nat))) (fun i => xs[i]?)) → (∀ H', Same H0 H' → G H') → R J H) : iEnA K ta σ H R :=
  e _ (h.elim (fun h => .inl ⟨a, xs, rfl, sq_same e0 h, q _ _ walk_enum fun _ e => sq_same e h⟩) fun h => .inr ⟨a, xs, rfl, st_same e0 h, q _ _ walk_enT fun _ e => st_same e h⟩)
/-- the type of a list or a tuple -/
theorem sq_type {K : PySem.W.Frag} {H : Hp} {a : Addr} {xs : List V} (h : Sq K H a xs) : ∃ t, TyX K H (.ref a) t ∧ (t = .type "list" ∨ t = .type "tuple") := by
  rcases h with ((h | ⟨o, h⟩) | h) | ((h | ⟨o, h⟩) | h)
  · exact ⟨_, .base (.lst h), .inl rfl⟩
  · exact ⟨_, .base (.frz h), .inl rfl⟩
  · obtain ⟨o, vs, n, e, c, _⟩ := h; exact ⟨_, .kList e c, .inl rfl⟩
  · exact ⟨_, .base (.tup h), .inr rfl⟩
  · exact ⟨_, .fTuple h, .inr rfl⟩
  · obtain ⟨o, vs, n, e, c, _⟩ := h; exact ⟨_, .kTuple e c, .inr rfl⟩
/-! ### data that is alike -/
theorem g_neR {K : PySem.W.Frag} {H : Hp} {Q : VK} {x y : V} {d : PyData} (hd : Dp K H x d) (he : Dp K H y d) (s : SeqAt.shaped d = true) (q : Q (.bl false) H) : rNeU K x y H Q :=
  g_neD hd he s s (by rw [SeqAt.eqv_refl d (SeqAt.canLay_of_shaped s)]; exact q)
theorem g_eqR {K : PySem.W.Frag} {H : Hp} {Q : VK} {x y : V} {d : PyData} (hd : Dp K H x d) (he : Dp K H y d) (s : SeqAt.shaped d = true) (q : Q (.bl true) H) : rEqU K x y H Q :=
  g_eqD hd he s s (by rw [SeqAt.eqv_refl d (SeqAt.canLay_of_shaped s)]; exact q)
/-- a text's signs are signs -/
def okS (z : Str) : Prop := (z.cps.all fun c => decide (c < 0x110000)) = true
theorem lay_str {z : Str} (h : okS z) : (PyData.str z).canLay0 = true := h
theorem lay_nil : PyData.canLayAll0 [] = true := rfl
theorem lay_cons {d : PyData} {ds : List PyData} (h : d.canLay0 = true) (k : PyData.canLayAll0 ds = true) : PyData.canLayAll0 (d :: ds) = true := by rw [PyData.canLayAll0, h, k]; rfl
theorem shape_list {ds : List PyData} (h : PyData.canLayAll0 ds = true) (k : PyData.depthAll ds ≤ 63) : SeqAt.shaped (.list ds) = true := by
  unfold SeqAt.shaped
  rw [PyData.canLay0, h, Bool.true_and]
  exact decide_eq_true (by rw [PyData.depth]; omega)
theorem shape_tuple {ds : List PyData} (h : PyData.canLayAll0 ds = true) (k : PyData.depthAll ds ≤ 63) : SeqAt.shaped (.tuple ds) = true := by
  unfold SeqAt.shaped
  rw [PyData.canLay0, h, Bool.true_and]
  exact decide_eq_true (by rw [PyData.depth]; omega)
/-! ### dicts laid -/
theorem g_dnew {σ : L2.St} {H : Hp} {Q : VK} (q : ∀ p, H p = none → Q (.ref p) (upd H p (.dK []))) : tDNewK σ H Q := q
theorem g_disp {trs : List (TE × TE)} {σ : L2.St} {H : Hp} {Q : VK} (q : ∀ p, H p = none → tPairs trs σ (upd H p (.dK [])) fun ps H2 => H2 p = some (.dK []) ∧ ∃ kvs : List (Key × V), ps = kvs.map (fun kv => (kV kv.1, kv.2)) ∧ kvs.length ≤ 15 ∧ Q (.ref p) (upd H2 p (.dK (mergeK [] kvs)))) : tDisp trs σ H Q := q
/-! ### slices of lists -/
theorem cutV_to {xs : List V} {k : Nat} : cutV xs none (some (k : Int)) = xs.take k := by
  unfold cutV
  rw [HT.sIx_none, HT.sIx_nat, List.drop_zero, Nat.sub_zero]
  by_cases h : k ≤ xs.length
  · rw [Nat.min_eq_left h]
  · rw [Nat.min_eq_right (by omega), List.take_of_length_le (Nat.le_refl _), List.take_of_length_le (by omega)]
theorem cutV_from {xs : List V} {k : Nat} : cutV xs (some (k : Int)) none = xs.drop k := by
  unfold cutV
  rw [HT.sIx_none, HT.sIx_nat]
  by_cases h : k ≤ xs.length
  · rw [Nat.min_eq_left h, List.take_of_length_le (by rw [List.length_drop]; exact Nat.le_refl _)]
  · rw [Nat.min_eq_right (by omega), List.drop_of_length_le (Nat.le_refl _), List.drop_of_length_le (by omega), List.take_nil]
/-! ### list of a text -/
theorem vals_signs {z : Str} {acc : Array Value} (h : ItemsOf (SignAt z) acc z.cps.size) : Vals (z.cps.toList.map fun c => V.str ⟨#[c]⟩) acc.toList := by
  obtain ⟨hn, hi⟩ := h
  have key : ∀ (l : List Nat) (vs : List Value), l.length = vs.length → (∀ (j : Nat) (v : Value), vs[j]? = some v → ∃ (c : Nat) (u : Tok), l[j]? = some c ∧ v = Value.str ⟨#[c]⟩ u) → Vals (l.map fun c => V.str ⟨#[c]⟩) vs := by
    intro l
    induction l with
    | nil =>
      intro vs e _
      cases vs with
      | nil => exact .nil
      | cons v r => cases e
    | cons c l ih =>
      intro vs e hv
      cases vs with
      | nil => cases e
      | cons v r =>
        obtain ⟨c', u, e1, e2⟩ := hv 0 v rfl
        cases e1
        exact .cons ⟨u, e2⟩ (ih r (by simpa using e) fun j v h => hv (j + 1) v h)
  refine key _ _ (by rw [Array.length_toList, Array.length_toList, hn]) fun j v h => ?_
  obtain ⟨c, u, e1, e2⟩ := hi j v (by rw [← Array.getElem?_toList]; exact h)
  exact ⟨c, u, by rw [Array.getElem?_toList]; exact e1, e2⟩
def rListS : List V → Hp → VK → Prop := fun xs H Q => ∃ z, xs = [.str z] ∧ z.length ≤ 1000000 ∧ ∀ p, H p = none → Q (.ref p) (upd H p (.lst (z.cps.toList.map fun c => V.str ⟨#[c]⟩)))
theorem call_listS {X : Cx} (hc : X.calm = true) : CallR X (.type "list") rListS := by
  intro pins s σ H xs us Q I r h
  obtain ⟨z, rfl, hz, q⟩ := h
  obtain ⟨u, rfl, rx⟩ := vals1 r
  obtain ⟨t, rfl⟩ := (show ∃ t, u = Value.str z t from rx)
  have sz : z.cps.size ≤ sizeLine := by rw [sizeLine_eq]; have : z.cps.size ≤ 1000000 := hz; omega
  refine call_list_str (hn := sz) (I.ok.hd hc) z t fun h' tk acc c' kp e it => ?_
  have rv := vals_signs it
  obtain ⟨l⟩ := acc
  exact ⟨.ref s.heap.objs.size, _, I.laid (t' := tk) kp (Nat.le_refl _) (show ObjOk X.prog X.w _ h' _ (.lst (z.cps.toList.map fun c => V.str ⟨#[c]⟩)) from ⟨by rw [List.length_map, Array.length_toList]; exact sz, l, c', rv, e⟩), rfl, q _ (I.hok.fresh (Nat.le_refl _))⟩
def rListV (K : PySem.W.Frag) : List V → Hp → VK → Prop := fun xs H Q => (∃ p ys, xs = [.ref p] ∧ (SqL K H p ys ∨ SqT K H p ys) ∧ ∀ l, H l = none → Q (.ref l) (upd H l (.lst ys))) ∨ rListS xs H Q
theorem call_listV {X : Cx} {K : PySem.W.Frag} (hK : X.K = K) (hc : X.calm = true) : CallR X (.type "list") (rListV K) := by
  subst hK
  exact call_list_of.or (call_listS hc)
theorem g_listSq {K : PySem.W.Frag} {H : Hp} {Q : VK} {a : Addr} {xs : List V} (h : Sq K H a xs) (q : ∀ p, H p = none → Q (.ref p) (upd H p (.lst xs))) : rListV K [.ref a] H Q := .inl ⟨a, xs, rfl, h, q⟩
theorem g_listS {K : PySem.W.Frag} {H : Hp} {Q : VK} {z : Str} (hz : z.length ≤ 1000000) (q : ∀ p, H p = none → Q (.ref p) (upd H p (.lst (z.cps.toList.map fun c => V.str ⟨#[c]⟩)))) : rListV K [.str z] H Q := .inr ⟨z, rfl, hz, q⟩
end Hx
/-! short words (local): go = the readings' own steps; hp, sq = what stands at an address; same = all kept -/
local macro_rules | `(tactic| walk_at "hx len") => `(tactic| (first
  | (obtain ⟨_, rfl, _⟩ := h; rfl) | (obtain ⟨_, _, rfl, _⟩ := h; rfl) | (obtain ⟨_, _, _, rfl, _⟩ := h; rfl) | (obtain ⟨_, _, _, _, rfl, _⟩ := h; rfl)
  | (obtain ⟨_, _, _, _, _, rfl, _⟩ := h; rfl) | (obtain ⟨_, _, _, _, _, _, rfl, _⟩ := h; rfl) | (obtain ⟨_, _, _, _, _, _, _, rfl, _⟩ := h; rfl) | (obtain ⟨rfl, _⟩ := h; rfl)))
local macro_rules | `(tactic| walk_at "hx free") => `(tactic| (first
  | assumption
  | with_reducible exact Hx.f_upd (by assumption) | with_reducible exact Hx.f_u2 (by assumption) | with_reducible exact Hx.f_u3 (by assumption)
  | with_reducible exact Hx.f_u4 (by assumption) | with_reducible exact Hx.f_u5 (by assumption) | with_reducible exact Hx.f_u6 (by assumption)
  | ((with_reducible refine Hx.f_same ?_ (by assumption)); walk_at "hx same")
  | ((with_reducible refine Hx.f_new (by walk_at "hx ne") ?_); walk_at "hx free")))
local macro_rules | `(tactic| walk_at "hx ne") => `(tactic| (first
  | assumption
  | (refine Ne.symm ?_; assumption)
  | with_reducible exact Hx.n_upd (by assumption) | with_reducible exact Hx.n_u2 (by assumption) | with_reducible exact Hx.n_u3 (by assumption) | with_reducible exact Hx.n_u4 (by assumption) | with_reducible exact Hx.n_u5 (by assumption)
  | with_reducible exact (Hx.n_upd (by assumption)).symm | with_reducible exact (Hx.n_u2 (by assumption)).symm | with_reducible exact (Hx.n_u3 (by assumption)).symm | with_reducible exact (Hx.n_u4 (by assumption)).symm
  | with_reducible exact Hx.n_at (by assumption) (by assumption) | with_reducible exact (Hx.n_at (by assumption) (by assumption)).symm))
local macro_rules | `(tactic| walk_at "hx hp") => `(tactic| (first
  | assumption
  | with_reducible exact L2.upd_same
  | ((with_reducible refine Hx.u_old (by walk_at "hx free") ?_); walk_at "hx hp")
  | ((with_reducible refine Hx.u_oth (by walk_at "hx ne") ?_); walk_at "hx hp")
  | ((with_reducible refine (by assumption : L2.Same _ _) _ _ ?_); walk_at "hx hp")))
local macro_rules | `(tactic| walk_at "hx sq") => `(tactic| (first
  | assumption
  | ((with_reducible refine Hx.sq_of ?_); walk_at "hx hp")
  | ((with_reducible refine Hx.sq_old (by walk_at "hx free") ?_); walk_at "hx sq")
  | ((with_reducible refine Hx.sq_oth (by walk_at "hx ne") ?_); walk_at "hx sq")
  | ((with_reducible refine Hx.sq_same (by assumption) ?_); walk_at "hx sq")))
local macro_rules | `(tactic| walk_at "hx same") => `(tactic| (first
  | assumption
  | with_reducible exact L2.Same.refl _
  | ((with_reducible refine Hx.s_new ?_ (by walk_at "hx free")); walk_at "hx same")
  | ((with_reducible refine Hx.s_mut ?_ (by walk_at "hx free")); walk_at "hx same")))
local macro_rules | `(tactic| walk_at "hx one") => `(tactic| (first
  | with_reducible refine Hx.g_seq ?_ | with_reducible refine Hx.g_asg ?_ | with_reducible refine Hx.g_op ?_
  | ((with_reducible refine' Hx.g_var ?hxv ?_); case hxv => exact rfl)
  | with_reducible refine Hx.g_c ?_ | with_reducible refine Hx.g_name ?_ | with_reducible refine Hx.g_cons ?_ | with_reducible refine Hx.g_nil ?_
  | with_reducible refine Hx.g_call ?_ | with_reducible refine Hx.g_CB ?_ | with_reducible refine Hx.g_ret ?_ | with_reducible refine Hx.g_drop ?_
  | with_reducible refine Hx.g_ifS ?_ | with_reducible refine Hx.g_test ?_ | with_reducible refine Hx.g_tB ?_ | with_reducible refine Hx.g_exb ?_
  | with_reducible refine Hx.g_not ?_ | with_reducible refine Hx.g_and ?_ | with_reducible refine Hx.g_or ?_
  | with_reducible refine Hx.g_andV ?_ | with_reducible refine Hx.g_orV ?_ | with_reducible refine Hx.g_notV ?_
  | with_reducible refine Hx.g_addI ?_ | with_reducible refine Hx.g_rI0 ?_ | with_reducible refine Hx.g_rU ?_ | with_reducible refine Hx.g_un ?_
  | with_reducible refine Hx.g_eqI ?_ | with_reducible refine Hx.g_neI ?_ | with_reducible refine Hx.g_eqS2 ?_ | with_reducible refine Hx.g_neS2 ?_
  | with_reducible refine Hx.g_eqB ?_ | with_reducible refine Hx.g_neB ?_ | with_reducible refine Hx.g_ltI ?_
  | with_reducible refine Hx.g_tup ?_ | with_reducible refine Hx.g_lst ?_ | with_reducible refine Hx.g_callK ?_ | with_reducible refine Hx.g_chain ?_
  | with_reducible refine Hx.g_sl ?_ | with_reducible refine Hx.g_nopart ?_ | with_reducible refine Hx.g_part ?_ | with_reducible refine Hx.g_exi ?_
  | with_reducible refine Hx.g_bm ?_ | with_reducible refine Hx.g_bm0 ?_ | with_reducible refine Hx.g_m0 ?_ | with_reducible refine Hx.g_m1 ?_ | with_reducible refine Hx.g_exs ?_
  | with_reducible refine Hx.g_tyS ?_ | with_reducible refine Hx.g_fld ?_ | with_reducible refine Hx.g_meth ?_ | with_reducible refine Hx.g_for ?_ | with_reducible refine Hx.g_lc ?_
  | with_reducible refine Hx.g_yes ?_ | ((with_reducible refine' Hx.g_aug ?hxv ?_); case hxv => exact rfl) | with_reducible refine Hx.g_ipI ?_
  | with_reducible refine Hx.g_revS ?_
  | with_reducible refine Hx.g_iList ?_ | with_reducible refine Hx.g_iStr ?_ | with_reducible refine Hx.g_exstr ?_ | with_reducible refine Hx.g_iRng1 ?_
  | with_reducible refine Hx.g_max2 ?_ | with_reducible refine Hx.g_min2 ?_ | with_reducible refine Hx.g_intB ?_ | with_reducible refine Hx.g_reprB ?_
  | with_reducible refine Hx.g_reprBD ?_ | with_reducible refine Hx.g_callE ?_ | with_reducible refine Hx.g_mkO ?_ | with_reducible refine Hx.g_ini ?_ | with_reducible refine Hx.g_sfld ?_ | with_reducible refine Hx.g_xf ?_ | with_reducible refine Hx.g_clause ?_ | with_reducible refine Hx.g_clause0 ?_ | with_reducible refine Hx.g_dnew ?_ | with_reducible refine Hx.g_disp ?_ | with_reducible refine Hx.g_par ?_ | with_reducible refine Hx.g_intI ?_ | with_reducible refine Hx.g_intBU ?_ | with_reducible refine Hx.g_two ?_
  | with_reducible refine Hx.g_if ?_ | with_reducible refine Hx.g_next ?_ | with_reducible refine Hx.g_brk ?_ | with_reducible refine Hx.g_cont ?_ | with_reducible refine Hx.g_retN ?_
  | with_reducible refine Hx.g_gcons ?_ | with_reducible refine Hx.g_gnil ?_ | with_reducible refine Hx.g_gsub ?_
  | with_reducible refine L2.iteT ?_ | with_reducible refine L2.iteF ?_ | with_reducible refine Hx.g_nT ?_ | with_reducible refine Hx.g_nF ?_))
local macro_rules | `(tactic| walk_at "hx go") => `(tactic| repeat (walk_at "hx one"))
namespace Pf
open PySem PySem.Spec PyProof.Rows L2 Hx
def topS (i : Nat) : Stmt := PySem.Challenge.pw_walkshome_k01_path_validation.main.body.getD i (.Pass ⟨0, 0, 0, 0⟩)
abbrev s_law_take : Stmt := topS 23
abbrev s_law_bent : Stmt := topS 29
abbrev s_inverted : Stmt := topS 12
abbrev s_LimitExceeded___init__ : Stmt := inClass (topS 4) 0
abbrev s_is_integer : Stmt := topS 8
abbrev s_InvalidNumber___init__ : Stmt := inClass (topS 3) 0
abbrev s_split_core : Stmt := topS 18
abbrev s_reduce_all : Stmt := topS 11
abbrev s_is_path : Stmt := topS 9
abbrev s_InvalidPath___init__ : Stmt := inClass (topS 2) 0
abbrev s_require_path : Stmt := topS 10
abbrev s_reduced : Stmt := topS 14
abbrev s_cyclic_parts : Stmt := topS 19
abbrev s_power : Stmt := topS 20
abbrev s_sort_key : Stmt := topS 16
abbrev s_precedes : Stmt := topS 17
abbrev s_is_reduced : Stmt := topS 15
abbrev s_inverse : Stmt := topS 13
abbrev s_law_asked : Stmt := topS 26
abbrev s_law_said : Stmt := topS 27
abbrev s_law_is_path : Stmt := topS 25
abbrev s_law_right : Stmt := topS 28
abbrev s_law_path : Stmt := topS 24
abbrev s_law_pool : Stmt := topS 22
abbrev s_law : Stmt := topS 30
structure Ad where
  a_law_take : Addr
  d_law_take : FuncData
  a_law_bent : Addr
  d_law_bent : FuncData
  a_inverted : Addr
  d_inverted : FuncData
  a_LimitExceeded___init__ : Addr
  d_LimitExceeded___init__ : FuncData
  a_is_integer : Addr
  d_is_integer : FuncData
  a_InvalidNumber___init__ : Addr
  d_InvalidNumber___init__ : FuncData
  a_split_core : Addr
  d_split_core : FuncData
  a_reduce_all : Addr
  d_reduce_all : FuncData
  a_is_path : Addr
  d_is_path : FuncData
  a_InvalidPath___init__ : Addr
  d_InvalidPath___init__ : FuncData
  a_require_path : Addr
  d_require_path : FuncData
  a_reduced : Addr
  d_reduced : FuncData
  a_cyclic_parts : Addr
  d_cyclic_parts : FuncData
  a_power : Addr
  d_power : FuncData
  a_sort_key : Addr
  d_sort_key : FuncData
  a_precedes : Addr
  d_precedes : FuncData
  a_is_reduced : Addr
  d_is_reduced : FuncData
  a_inverse : Addr
  d_inverse : FuncData
  a_law_asked : Addr
  d_law_asked : FuncData
  a_law_said : Addr
  d_law_said : FuncData
  a_law_is_path : Addr
  d_law_is_path : FuncData
  a_law_right : Addr
  d_law_right : FuncData
  a_law_path : Addr
  d_law_path : FuncData
  a_law_pool : Addr
  d_law_pool : FuncData
  a_law : Addr
  d_law : FuncData
  k_InvalidNumber : Addr
  k_InvalidPath : Addr
  k_LimitExceeded : Addr
  k_PathError : Addr
structure Txt (K : PySem.W.Frag) (mg : Str → Option Value) (A : Ad) : Prop where
  f_law_take : Fun K "_law_take" "_law_take" s_law_take A.a_law_take A.d_law_take
  g_law_take : mg "_law_take" = some (.ref A.a_law_take)
  b_law_take : Binds K A.d_law_take ["_law_pool_here", "_law_many"] []
  f_law_bent : Fun K "_law_bent" "_law_bent" s_law_bent A.a_law_bent A.d_law_bent
  g_law_bent : mg "_law_bent" = some (.ref A.a_law_bent)
  b_law_bent : Binds K A.d_law_bent ["_law_pool_here", "_law_path_here"] []
  f_inverted : Fun K "inverted" "inverted" s_inverted A.a_inverted A.d_inverted
  g_inverted : mg "inverted" = some (.ref A.a_inverted)
  b_inverted : Binds K A.d_inverted ["steps"] []
  f_LimitExceeded___init__ : Fun K "__init__" "LimitExceeded.__init__" s_LimitExceeded___init__ A.a_LimitExceeded___init__ A.d_LimitExceeded___init__
  b_LimitExceeded___init__ : Binds K A.d_LimitExceeded___init__ ["self", "limit"] []
  f_is_integer : Fun K "is_integer" "is_integer" s_is_integer A.a_is_integer A.d_is_integer
  g_is_integer : mg "is_integer" = some (.ref A.a_is_integer)
  b_is_integer : Binds K A.d_is_integer ["value"] []
  f_InvalidNumber___init__ : Fun K "__init__" "InvalidNumber.__init__" s_InvalidNumber___init__ A.a_InvalidNumber___init__ A.d_InvalidNumber___init__
  b_InvalidNumber___init__ : Binds K A.d_InvalidNumber___init__ ["self", "value"] []
  f_split_core : Fun K "split_core" "split_core" s_split_core A.a_split_core A.d_split_core
  g_split_core : mg "split_core" = some (.ref A.a_split_core)
  b_split_core : Binds K A.d_split_core ["steps"] []
  f_reduce_all : Fun K "reduce_all" "reduce_all" s_reduce_all A.a_reduce_all A.d_reduce_all
  g_reduce_all : mg "reduce_all" = some (.ref A.a_reduce_all)
  b_reduce_all : Binds K A.d_reduce_all ["parts"] []
  f_is_path : Fun K "is_path" "is_path" s_is_path A.a_is_path A.d_is_path
  g_is_path : mg "is_path" = some (.ref A.a_is_path)
  b_is_path : Binds K A.d_is_path ["value"] []
  f_InvalidPath___init__ : Fun K "__init__" "InvalidPath.__init__" s_InvalidPath___init__ A.a_InvalidPath___init__ A.d_InvalidPath___init__
  b_InvalidPath___init__ : Binds K A.d_InvalidPath___init__ ["self", "value"] []
  f_require_path : Fun K "require_path" "require_path" s_require_path A.a_require_path A.d_require_path
  g_require_path : mg "require_path" = some (.ref A.a_require_path)
  b_require_path : Binds K A.d_require_path ["value"] []
  f_reduced : Fun K "reduced" "reduced" s_reduced A.a_reduced A.d_reduced
  g_reduced : mg "reduced" = some (.ref A.a_reduced)
  b_reduced : Binds K A.d_reduced ["path"] []
  f_cyclic_parts : Fun K "cyclic_parts" "cyclic_parts" s_cyclic_parts A.a_cyclic_parts A.d_cyclic_parts
  g_cyclic_parts : mg "cyclic_parts" = some (.ref A.a_cyclic_parts)
  b_cyclic_parts : Binds K A.d_cyclic_parts ["path"] []
  f_power : Fun K "power" "power" s_power A.a_power A.d_power
  g_power : mg "power" = some (.ref A.a_power)
  b_power : Binds K A.d_power ["path", "exponent"] []
  f_sort_key : Fun K "sort_key" "sort_key" s_sort_key A.a_sort_key A.d_sort_key
  g_sort_key : mg "sort_key" = some (.ref A.a_sort_key)
  b_sort_key : Binds K A.d_sort_key ["path"] []
  f_precedes : Fun K "precedes" "precedes" s_precedes A.a_precedes A.d_precedes
  g_precedes : mg "precedes" = some (.ref A.a_precedes)
  b_precedes : Binds K A.d_precedes ["first", "second"] []
  f_is_reduced : Fun K "is_reduced" "is_reduced" s_is_reduced A.a_is_reduced A.d_is_reduced
  g_is_reduced : mg "is_reduced" = some (.ref A.a_is_reduced)
  b_is_reduced : Binds K A.d_is_reduced ["path"] []
  f_inverse : Fun K "inverse" "inverse" s_inverse A.a_inverse A.d_inverse
  g_inverse : mg "inverse" = some (.ref A.a_inverse)
  b_inverse : Binds K A.d_inverse ["path"] []
  f_law_asked : Fun K "_law_asked" "_law_asked" s_law_asked A.a_law_asked A.d_law_asked
  g_law_asked : mg "_law_asked" = some (.ref A.a_law_asked)
  b_law_asked : Binds K A.d_law_asked ["_law_edge", "_law_thing"] []
  f_law_said : Fun K "_law_said" "_law_said" s_law_said A.a_law_said A.d_law_said
  g_law_said : mg "_law_said" = some (.ref A.a_law_said)
  b_law_said : Binds K A.d_law_said ["_law_edge", "_law_thing"] []
  f_law_is_path : Fun K "_law_is_path" "_law_is_path" s_law_is_path A.a_law_is_path A.d_law_is_path
  g_law_is_path : mg "_law_is_path" = some (.ref A.a_law_is_path)
  b_law_is_path : Binds K A.d_law_is_path ["_law_thing"] []
  f_law_right : Fun K "_law_right" "_law_right" s_law_right A.a_law_right A.d_law_right
  g_law_right : mg "_law_right" = some (.ref A.a_law_right)
  b_law_right : Binds K A.d_law_right ["_law_thing"] []
  f_law_path : Fun K "_law_path" "_law_path" s_law_path A.a_law_path A.d_law_path
  g_law_path : mg "_law_path" = some (.ref A.a_law_path)
  b_law_path : Binds K A.d_law_path ["_law_pool_here", "_law_most", "_law_letters"] []
  f_law_pool : Fun K "_law_pool" "_law_pool" s_law_pool A.a_law_pool A.d_law_pool
  g_law_pool : mg "_law_pool" = some (.ref A.a_law_pool)
  b_law_pool : Binds K A.d_law_pool ["_law_script", "_law_k"] []
  f_law : Fun K "law" "law" s_law A.a_law A.d_law
  g_law : mg "law" = some (.ref A.a_law)
  b_law : Binds K A.d_law ["_law_script"] []
  c_MAX_STEPS : ∃ t, mg "MAX_STEPS" = some (.int 400 t)
  c_STEPS : ∃ t, mg "STEPS" = some (.str "aAbBcCdD" t)
  z_OverflowError : mg "OverflowError" = none
  z_ValueError : mg "ValueError" = none
  z_all : mg "all" = none
  z_bool : mg "bool" = none
  z_int : mg "int" = none
  z_isinstance : mg "isinstance" = none
  z_len : mg "len" = none
  z_list : mg "list" = none
  z_max : mg "max" = none
  z_min : mg "min" = none
  z_range : mg "range" = none
  z_repr : mg "repr" = none
  z_str : mg "str" = none
  g_InvalidNumber : mg "InvalidNumber" = some (.ref A.k_InvalidNumber)
  g_InvalidPath : mg "InvalidPath" = some (.ref A.k_InvalidPath)
  g_LimitExceeded : mg "LimitExceeded" = some (.ref A.k_LimitExceeded)
  g_PathError : mg "PathError" = some (.ref A.k_PathError)
  x_InvalidNumber : Xc K ebV A.k_InvalidNumber
  x_InvalidPath : Xc K ebV A.k_InvalidPath
  x_LimitExceeded : Xc K ebO A.k_LimitExceeded
  i_InvalidNumber : PySem.W.findIn K (.ref A.k_InvalidNumber) "__init__" = some (some (.ref A.a_InvalidNumber___init__))
  t_InvalidNumber : PySem.W.typeIn K (.ref A.a_InvalidNumber___init__) = some (.type "function")
  i_InvalidPath : PySem.W.findIn K (.ref A.k_InvalidPath) "__init__" = some (some (.ref A.a_InvalidPath___init__))
  t_InvalidPath : PySem.W.typeIn K (.ref A.a_InvalidPath___init__) = some (.type "function")
  i_LimitExceeded : PySem.W.findIn K (.ref A.k_LimitExceeded) "__init__" = some (some (.ref A.a_LimitExceeded___init__))
  t_LimitExceeded : PySem.W.typeIn K (.ref A.a_LimitExceeded___init__) = some (.type "function")
  n_InvalidNumber_value : PySem.W.findIn K (.ref A.k_InvalidNumber) "value" = some none
  n_InvalidPath_value : PySem.W.findIn K (.ref A.k_InvalidPath) "value" = some none
  n_LimitExceeded_limit : PySem.W.findIn K (.ref A.k_LimitExceeded) "limit" = some none
  v_OverflowError : PySem.W.findCls K (.type "OverflowError") (.type "type") "__init__" = some (.val (.builtin "OverflowError.__init__"))
  s_PathError : PySem.W.specialIn K (.ref A.k_PathError) "__getattribute__" = some (some (.builtin "type.__getattribute__"))
  r_PathError : PySem.W.readsIn K A.k_PathError (.type "type") = true
  v_PathError : PySem.W.findCls K (.ref A.k_PathError) (.type "type") "__init__" = some (.val (.builtin "ValueError.__init__"))
  ko_InvalidPath_PathError : PySem.W.kitOne K (.ref A.k_InvalidPath) (.ref A.k_PathError) = some true
  ko_InvalidPath_ValueError : PySem.W.kitOne K (.ref A.k_InvalidPath) (.type "ValueError") = some true
  m_InvalidPath_InvalidPath : PySem.W.exmOne K (.ref A.k_InvalidPath) (.ref A.k_InvalidPath) = some true
section
variable {P : Program} {w : World} {K : PySem.W.Frag} {mg : Str → Option Value} {base : Heap} {A : Ad}
end
/-- a pool of draws at p -/
def PoolAt (H : Hp) (p : Addr) : Prop := ∃ x y : Int, 0 ≤ x ∧ 0 ≤ y ∧ y < 2147483647 ∧ H p = some (.lst [.int x, .int y])
theorem cut_ints (ns : List Int) (lo hi : Option Int) : ∃ ms : List Int, ms.length ≤ ns.length ∧ cutV (ns.map V.int) lo hi = ms.map V.int :=
  ⟨(ns.drop (HT.sIx (ns.map V.int).length 0 lo)).take (HT.sIx (ns.map V.int).length (ns.map V.int).length hi - HT.sIx (ns.map V.int).length 0 lo), by
    rw [List.length_take, List.length_drop]; omega, by unfold cutV; rw [List.map_take, List.map_drop]⟩
theorem at0 (ms : List Int) : ∃ c : Int, atI (ms.map V.int ++ [V.int 0]) 0 = some (.int c) := by
  cases ms with
  | nil => exact ⟨0, rfl⟩
  | cons c r => exact ⟨c, atI_nat (j := 0) rfl⟩
theorem b01 (b : Bool) : (0 : Int) ≤ (if b = true then 1 else 0) ∧ (if b = true then (1 : Int) else 0) ≤ 1 := by cases b <;> decide
theorem PoolAt.same {H H' : Hp} {p : Addr} (e : Same H H') (h : PoolAt H p) : PoolAt H' p := by
  obtain ⟨x, y, h1, h2, h3, h4⟩ := h
  exact ⟨x, y, h1, h2, h3, e _ _ h4⟩
theorem PoolAt.ne {H : Hp} {p D : Addr} (h : PoolAt H p) (n : H D = none) : D ≠ p := fun e => by
  obtain ⟨_, _, _, _, _, q⟩ := h
  rw [e, q] at n; cases n
theorem PoolAt.oth {H : Hp} {p D : Addr} {u : HO} (h : PoolAt H p) (n : p ≠ D) : PoolAt (upd H D u) p := by
  obtain ⟨x, y, h1, h2, h3, h4⟩ := h
  exact ⟨x, y, h1, h2, h3, u_oth n h4⟩
section
variable {P : Program} {w : World} {K : PySem.W.Frag} {mg : Str → Option Value} {base : Heap} {A : Ad}
theorem sc_law_take : FnScope ["_law_pool_here", "_law_many", "_law_digit"] ["_law_pool_here", "_law_many"] (defScope s_law_take) := ⟨rfl, rfl, rfl, by decide +kernel, rfl, by decide +kernel, by decide +kernel⟩
def nm_law_take : List Str := ["_law_pool_here", "_law_many", "_law_digit"]
def sp_law_take (K : PySem.W.Frag) : Sp := fun vs H Q _ => ∃ (p : Addr) (m : Int), vs = [.ref p, .int m] ∧ PoolAt H p ∧ 0 < m ∧ m ≤ 1000000 ∧
  ∀ (d : Nat) H', (d : Int) < m → But p H H' → (∀ b, H b = none → H' b = none) → PoolAt H' p → Q (.int (d : Nat)) H'
theorem ok_law_take (T : Txt K mg A) : FnG P w K mg base CX0 1 A.a_law_take A.d_law_take ["_law_pool_here", "_law_many"] (sp_law_take K) := by
  refine fn0 T.f_law_take sc_law_take (fun vs H Q E h => ?_) (fun cdv A_ outer s H vs Q E hr h => ?_)
  · first | (obtain ⟨_, rfl, _⟩ := h; rfl) | (obtain ⟨_, _, rfl, _⟩ := h; rfl) | (obtain ⟨_, _, _, rfl, _⟩ := h; rfl) | (obtain ⟨_, _, _, _, rfl, _⟩ := h; rfl) | (obtain ⟨_, _, _, _, _, rfl, _⟩ := h; rfl) | (obtain ⟨_, _, _, _, _, _, rfl, _⟩ := h; rfl) | (obtain ⟨rfl, _⟩ := h; rfl)
  · obtain ⟨p, m, rfl, ⟨x, y, hx, hy, hy2, hp⟩, hm, hm2, q⟩ := h
    refine ⟨_, (pss_cons (ps_if (pt_cmpR op_gt (pe_ix (ix_seqK (K := K) rfl) (pv 0) pe_int (fun _ _ => rfl)) pe_int rfl) (pss_cons (ps_set (i := 2) sc_law_take.nd rfl (by first | exact Or.inl rfl | exact Or.inr rfl) (pe_op op_mod (pe_ix (ix_seqK (K := K) rfl) (pv 0) pe_int (fun _ _ => rfl)) (pv 1)))
      (pss_cons (ps_asg (pe_op op_fdiv (pe_ix (ix_seqK (K := K) rfl) (pv 0) pe_int (fun _ _ => rfl)) (pv 1)) (pg_sub (pv 0) pe_int set_list))
      (pss_one (ps_ret (pv 2))))) pss_nil)
      (pss_cons (ps_asg (pe_op op_mod (pe_op op_addU (pe_op op_mulU (pe_ix (ix_seqK (K := K) rfl) (pv 0) pe_int (fun _ _ => rfl)) pe_int) pe_int) pe_int) (pg_sub (pv 0) pe_int set_list))
      (pss_one (ps_ret (pe_op op_mod (pe_op op_fdiv (pe_op op_mod (pe_op op_mulU (pe_ix (ix_seqK (K := K) rfl) (pv 0) pe_int (fun _ _ => rfl)) (pe_ix (ix_seqK (K := K) rfl) (pv 0) pe_int (fun _ _ => rfl))) pe_int) pe_int) (pv 1)))))), ?_⟩
    dsimp only [L2.cxOf, L2.Cx.nox, L2.Cx.wish, L2.start, List.map, List.length_cons, List.length_nil, Nat.reduceAdd, Nat.reduceSub, List.replicate, List.cons_append, List.nil_append, nm_law_take]
    have hS1 : SqL K H p [.int x, .int y] := sq_of hp
    have pn : ∀ {H' : Hp} {o u : HO}, (H' p = some o) → ∀ b, H' b = none → upd H' p u b = none := fun h b n => f_new (fun e => by rw [e, h] at n; cases n) n
    walk_at "hx go"
    refine g_ixL hS1 (atI_nat (j := 0) rfl) ?_
    walk_at "hx go"
    refine g_byD (fun h0 => ?_) (fun h0 => ?_)
    · walk_at "hx go"
      refine g_ixL hS1 (atI_nat (j := 0) rfl) ?_
      walk_at "hx go"
      refine g_mod hm ?_
      walk_at "hx go"
      refine g_ixL hS1 (atI_nat (j := 0) rfl) ?_
      walk_at "hx go"
      refine g_div ⟨hm, by omega⟩ ?_
      walk_at "hx go"
      refine g_setL (i := 0) hp (by show 0 < 2; decide) ?_
      walk_at "hx go"
      have e := Int.toNat_of_nonneg (Int.emod_nonneg x (show m ≠ 0 by omega))
      have e2 := Int.emod_lt_of_pos x hm
      have q1 := q (x % m).toNat (upd H p (.lst [.int (x / m), .int y])) (by omega) (But.own (But.refl p H)) (pn hp) ⟨_, _, Int.ediv_nonneg hx (by omega), hy, hy2, upd_same⟩
      rw [e] at q1
      exact q1
    · walk_at "hx go"
      refine g_ixL hS1 (atI_nat (j := 1) rfl) ?_
      walk_at "hx go"
      refine g_mulI (.inr ⟨by decide, by decide⟩) ?_
      walk_at "hx go"
      refine g_mod (by decide) ?_
      walk_at "hx go"
      refine g_setL (i := 1) hp (by show 1 < 2; decide) ?_
      have hm0 := Int.emod_nonneg (y * 48271 + 12345) (show (2147483647 : Int) ≠ 0 by decide)
      have hm1 := Int.emod_lt_of_pos (y * 48271 + 12345) (show (0 : Int) < 2147483647 by decide)
      generalize (y * 48271 + 12345) % 2147483647 = z at *
      have hp2 : upd H p (.lst ([V.int x, .int y].set 1 (.int z))) p = some (.lst [.int x, .int z]) := upd_same
      have hS2 : SqL K (upd H p (.lst ([V.int x, .int y].set 1 (.int z)))) p [.int x, .int z] := sq_of hp2
      walk_at "hx go"
      refine g_ixL hS2 (atI_nat (j := 1) rfl) ?_
      walk_at "hx go"
      refine g_ixL hS2 (atI_nat (j := 1) rfl) ?_
      walk_at "hx go"
      refine g_mulI (.inl ⟨by omega, by omega⟩) ?_
      walk_at "hx go"
      refine g_mod (by decide) ?_
      walk_at "hx go"
      refine g_div ⟨by decide, by decide⟩ ?_
      walk_at "hx go"
      refine g_mod hm ?_
      have e := Int.toNat_of_nonneg (Int.emod_nonneg (z * z % 2147483629 / 64) (show m ≠ 0 by omega))
      have e2 := Int.emod_lt_of_pos (z * z % 2147483629 / 64) hm
      have q1 := q (z * z % 2147483629 / 64 % m).toNat (upd H p (.lst [.int x, .int z])) (by omega) (But.own (But.refl p H)) (pn hp) ⟨x, z, hx, hm0, hm1, upd_same⟩
      rw [e] at q1
      exact q1

end
/-- the text of a list of codes -/
def S (l : List Nat) : Str := ⟨l.toArray⟩
theorem S_cps (l : List Nat) : (S l).cps.toList = l := by simp [S]
theorem S_len (l : List Nat) : (S l).length = l.length := by simp [S, Str.length]
theorem S_inj {l m : List Nat} (h : S l = S m) : l = m := by rw [← S_cps l, h, S_cps]
theorem S_of (z : Str) : z = S z.cps.toList := by cases z; simp [S]
theorem S_app (l m : List Nat) : S l ++ S m = S (l ++ m) := by
  show Str.append (S l) (S m) = _
  simp [Str.append, S]
theorem S_nil : (Str.ofString "") = S [] := by decide +kernel
theorem S_empty : Str.empty = S [] := rfl
def sg (c : Nat) : Str := S [c]
theorem sg_S (c : Nat) : (⟨#[c]⟩ : Str) = S [c] := rfl
theorem join_S : ∀ ls : List (List Nat), Txt.join (Str.ofString "") (ls.map S) = S ls.flatten := by
  intro ls
  rw [show ∀ (y : Str) (ps : List Str), Txt.join y ps = Str.join y ps from fun y ps => PySem.StrLaws.glued_eq_join y ps]
  induction ls with
  | nil => rfl
  | cons a r ih =>
    cases r with
    | nil => simp [Str.join]
    | cons b r =>
      show S a ++ Str.ofString "" ++ Str.join (Str.ofString "") ((b :: r).map S) = _
      rw [ih, S_nil, S_app, S_app]; simp
theorem join_sg (l : List Nat) : Txt.join (Str.ofString "") (l.map sg) = S l := by
  have := join_S (l.map fun c => [c])
  rw [List.map_map] at this
  rw [show (l.map sg) = l.map (S ∘ fun c => [c]) from rfl, this]
  congr 1
  clear this
  induction l with
  | nil => rfl
  | cons c r ih => rw [List.map_cons, List.flatten_cons, ih]; rfl
/-- the codes of the steps, in order -/
def stepC : List Nat := [97, 65, 98, 66, 99, 67, 100, 68]
theorem stepsS : (Str.ofString "aAbBcCdD") = S stepC := by decide +kernel
/-- a path: codes of steps -/
def IsP (l : List Nat) : Prop := ∀ c ∈ l, c ∈ stepC
theorem IsP.nil : IsP [] := fun _ h => by cases h
theorem IsP.app {l m : List Nat} (h : IsP l) (k : IsP m) : IsP (l ++ m) := fun c hc => (List.mem_append.mp hc).elim (h c) (k c)
theorem IsP.one {c : Nat} (h : c ∈ stepC) : IsP [c] := fun d hd => by rw [List.mem_singleton] at hd; subst hd; exact h
/-- the step at a place below eight -/
theorem step_at {d : Nat} (h : d < 8) : ∃ c, c ∈ stepC ∧ stepC[d]? = some c := ⟨stepC[d]'h, List.getElem_mem _, List.getElem?_eq_getElem h⟩
/-- the other case of a letter -/
def sw (c : Nat) : Nat := if 65 ≤ c ∧ c ≤ 90 then c + 32 else if 97 ≤ c ∧ c ≤ 122 then c - 32 else c
theorem sw_sw (c : Nat) : sw (sw c) = c := by
  unfold sw
  split
  · rw [if_neg (by omega), if_pos (by omega)]; omega
  · split
    · rw [if_pos (by omega)]; omega
    · rfl
theorem sw_inj {c d : Nat} (h : sw c = sw d) : c = d := by rw [← sw_sw c, h, sw_sw]
theorem sw_eq {c d : Nat} (h : c = sw d) : d = sw c := by rw [h, sw_sw]
theorem sw_step : ∀ c ∈ stepC, sw c ∈ stepC := by decide +kernel
theorem sw_lt : ∀ c ∈ stepC, c < 128 := by decide +kernel
theorem step_ok {l : List Nat} (h : IsP l) : ((S l).cps.all fun c => decide (c < 0x110000)) = true := by
  rw [← Array.all_toList, S_cps, List.all_eq_true]
  exact fun c hc => decide_eq_true (by have := sw_lt c (h c hc); omega)
/-- a letter laid upon a stack, or cancelled with the last one -/
def push : List Nat → Nat → List Nat
  | [], c => [c]
  | x :: r, c => if x = sw c then r else c :: x :: r
theorem push_cons (x : Nat) (r : List Nat) (c : Nat) : push (x :: r) c = if x = sw c then r else c :: x :: r := rfl
def runP (st : List Nat) (l : List Nat) : List Nat := l.foldl push st
/-- the free reduction -/
def red (l : List Nat) : List Nat := (runP [] l).reverse
/-- no letter beside its inverse -/
def Rd : List Nat → Prop
  | [] => True
  | [_] => True
  | x :: y :: r => x ≠ sw y ∧ Rd (y :: r)
theorem Rd.tail {x : Nat} {r : List Nat} (h : Rd (x :: r)) : Rd r := by
  cases r with
  | nil => trivial
  | cons y r => exact h.2
theorem Rd.drop {a b : List Nat} (h : Rd (a ++ b)) : Rd b := by
  induction a with
  | nil => exact h
  | cons x r ih => exact ih h.tail
theorem Rd.push {st : List Nat} (h : Rd st) (c : Nat) : Rd (push st c) := by
  cases st with
  | nil => trivial
  | cons x r =>
    rw [push_cons]
    split
    · exact h.tail
    · rename_i n
      exact ⟨fun e => n (sw_eq e), h⟩
theorem Rd.run {st : List Nat} (h : Rd st) (l : List Nat) : Rd (runP st l) := by
  induction l generalizing st with
  | nil => exact h
  | cons c r ih => exact ih (h.push c)
theorem push_back {st : List Nat} (h : Rd st) (c : Nat) : push (push st c) (sw c) = st := by
  cases st with
  | nil => simp [push, sw_sw]
  | cons x r =>
    by_cases e : x = sw c
    · rw [push, if_pos e]
      cases r with
      | nil => rw [push, e]
      | cons y r =>
        rw [push, if_neg, e]
        intro q
        rw [sw_sw] at q
        exact h.1 (by rw [e, q])
    · rw [push, if_neg e, push, if_pos (by rw [sw_sw])]
theorem run_pair {st : List Nat} (h : Rd st) (c : Nat) (l : List Nat) : runP st (c :: sw c :: l) = runP st l := by
  show runP (push (push st c) (sw c)) l = _
  rw [push_back h]
theorem runP_app (st l m : List Nat) : runP st (l ++ m) = runP (runP st l) m := List.foldl_append
theorem red_pair (a b : List Nat) (c : Nat) : red (a ++ c :: sw c :: b) = red (a ++ b) := by
  unfold red
  rw [runP_app, run_pair (Rd.run (st := []) trivial a), ← runP_app]
/-- the letters of what is left are the path's -/
theorem runP_mem {st l : List Nat} {c : Nat} (h : c ∈ runP st l) : c ∈ st ∨ c ∈ l := by
  induction l generalizing st with
  | nil => exact .inl h
  | cons d r ih =>
    rcases ih (st := push st d) h with q | q
    · cases st with
      | nil => rw [push, List.mem_singleton] at q; exact .inr (by rw [q]; exact List.mem_cons_self)
      | cons x t =>
        rw [push_cons] at q
        split at q
        · exact .inl (List.mem_cons_of_mem _ q)
        · rcases List.mem_cons.mp q with q | q
          · exact .inr (by rw [q]; exact List.mem_cons_self)
          · exact .inl q
    · exact .inr (List.mem_cons_of_mem _ q)
theorem IsP.run {l : List Nat} (h : IsP l) : IsP (runP [] l) := fun c hc => by
  rcases runP_mem hc with q | q
  · cases q
  · exact h c q
theorem IsP.red {l : List Nat} (h : IsP l) : IsP (red l) := fun c hc => h.run c (List.mem_reverse.mp hc)
theorem push_len (st : List Nat) (c : Nat) : (push st c).length ≤ st.length + 1 := by
  cases st with
  | nil => simp [push]
  | cons x r => rw [push_cons]; split <;> simp <;> omega
theorem runP_len (st l : List Nat) : (runP st l).length ≤ st.length + l.length := by
  induction l generalizing st with
  | nil => exact Nat.le_refl _
  | cons c r ih =>
    have h1 := ih (st := push st c)
    have h2 := push_len st c
    show (runP (push st c) r).length ≤ _
    rw [List.length_cons]; omega
theorem red_len (l : List Nat) : (red l).length ≤ l.length := by
  have := runP_len [] l
  unfold red
  rw [List.length_reverse]
  simpa using this
/-- reduced lists, the other way round -/
theorem Rd.snoc {l : List Nat} {x y : Nat} (h : Rd (l ++ [x])) (n : x ≠ sw y) : Rd (l ++ [x, y]) := by
  induction l with
  | nil => exact ⟨n, trivial⟩
  | cons a r ih =>
    cases r with
    | nil => exact ⟨h.1, n, trivial⟩
    | cons b r => exact ⟨h.1, ih h.2⟩
theorem Rd.rev {l : List Nat} (h : Rd l) : Rd l.reverse := by
  induction l with
  | nil => trivial
  | cons a r ih =>
    cases r with
    | nil => trivial
    | cons b r =>
      have h1 := ih h.2
      rw [List.reverse_cons] at h1 ⊢
      rw [List.reverse_cons, List.append_assoc]
      exact Rd.snoc h1 fun e => h.1 (sw_eq e)
theorem Rd_red (l : List Nat) : Rd (red l) := (Rd.run (st := []) trivial l).rev
theorem run_rd : ∀ (l st : List Nat), Rd (l.reverse ++ st) → runP st l = l.reverse ++ st
  | [], _, _ => rfl
  | c :: r, st, h => by
    rw [List.reverse_cons, List.append_assoc] at h
    have hc : Rd (c :: st) := Rd.drop (a := r.reverse) (b := c :: st) h
    have e : push st c = c :: st := by
      cases st with
      | nil => rfl
      | cons x t => rw [push, if_neg fun q => hc.1 (sw_eq q)]
    show runP (push st c) r = _
    rw [e, run_rd r (c :: st) h, List.reverse_cons, List.append_assoc]; rfl
theorem red_rd {l : List Nat} (h : Rd l) : red l = l := by
  unfold red
  rw [run_rd l [] (by rw [List.append_nil]; exact h.rev), List.append_nil, List.reverse_reverse]
theorem red_red (l : List Nat) : red (red l) = red l := red_rd (Rd_red l)
/-- free equality -/
inductive Fr : List Nat → List Nat → Prop
  | refl (l) : Fr l l
  | pair (a : List Nat) (c : Nat) (b : List Nat) : Fr (a ++ c :: sw c :: b) (a ++ b)
  | symm {l m} : Fr l m → Fr m l
  | trans {l m n} : Fr l m → Fr m n → Fr l n
theorem Fr.red {l m : List Nat} (h : Fr l m) : red l = red m := by
  induction h with
  | refl => rfl
  | pair a c b => exact red_pair a b c
  | symm _ ih => exact ih.symm
  | trans _ _ h1 h2 => exact h1.trans h2
theorem Fr.run : ∀ (l st : List Nat), Fr (st.reverse ++ l) (runP st l).reverse
  | [], st => by rw [List.append_nil]; exact .refl _
  | c :: r, st => by
    refine .trans ?_ (Fr.run r (push st c))
    cases st with
    | nil => exact .refl _
    | cons x t =>
      rw [push_cons]
      split
      · rename_i e
        have h := Fr.pair t.reverse x r
        rw [show sw x = c by rw [e, sw_sw]] at h
        rw [List.reverse_cons, List.append_assoc]
        exact h
      · simp only [List.reverse_cons, List.append_assoc]
        exact .refl _
theorem Fr.self (l : List Nat) : Fr l (Pf.red l) := Fr.run l []
theorem Fr.of_red {l m : List Nat} (h : Pf.red l = Pf.red m) : Fr l m := (Fr.self l).trans (h ▸ (Fr.self m).symm)
theorem Fr.left (k : List Nat) {l m : List Nat} (h : Fr l m) : Fr (k ++ l) (k ++ m) := by
  induction h with
  | refl => exact .refl _
  | pair a c b => rw [← List.append_assoc, ← List.append_assoc]; exact .pair _ _ _
  | symm _ ih => exact ih.symm
  | trans _ _ h1 h2 => exact h1.trans h2
theorem Fr.right (k : List Nat) {l m : List Nat} (h : Fr l m) : Fr (l ++ k) (m ++ k) := by
  induction h with
  | refl => exact .refl _
  | pair a c b => rw [List.append_assoc, List.append_assoc]; exact .pair _ _ _
  | symm _ ih => exact ih.symm
  | trans _ _ h1 h2 => exact h1.trans h2
theorem Fr.app {l m l' m' : List Nat} (h : Fr l m) (h' : Fr l' m') : Fr (l ++ l') (m ++ m') := (h.right _).trans (h'.left _)
/-- the inverse -/
def inv (l : List Nat) : List Nat := l.reverse.map sw
theorem inv_app (l m : List Nat) : inv (l ++ m) = inv m ++ inv l := by unfold inv; rw [List.reverse_append, List.map_append]
theorem inv_inv (l : List Nat) : inv (inv l) = l := by
  unfold inv
  rw [← List.map_reverse, List.reverse_reverse, List.map_map]
  rw [show sw ∘ sw = id from funext sw_sw, List.map_id]
theorem IsP.inv {l : List Nat} (h : IsP l) : IsP (inv l) := fun c hc => by
  obtain ⟨d, hd, rfl⟩ := List.mem_map.mp hc
  exact sw_step d (h d (List.mem_reverse.mp hd))
theorem inv_len (l : List Nat) : (inv l).length = l.length := by simp [inv]
theorem Fr.inv {l m : List Nat} (h : Fr l m) : Fr (inv l) (inv m) := by
  induction h with
  | refl => exact .refl _
  | pair a c b =>
    rw [inv_app, inv_app]
    have : Pf.inv (c :: sw c :: b) = Pf.inv b ++ c :: [sw c] := by
      unfold Pf.inv
      simp [sw_sw]
    rw [this, List.append_assoc]
    exact .pair _ _ _
  | symm _ ih => exact ih.symm
  | trans _ _ h1 h2 => exact h1.trans h2
theorem Rd.map_sw {l : List Nat} (h : Rd l) : Rd (l.map sw) := by
  induction l with
  | nil => trivial
  | cons a r ih =>
    cases r with
    | nil => trivial
    | cons b r => exact ⟨fun e => h.1 (sw_inj e), ih h.2⟩
theorem Rd.inv {l : List Nat} (h : Rd l) : Rd (inv l) := h.rev.map_sw
theorem red_inv (l : List Nat) : red (inv l) = inv (red l) := by
  rw [(Fr.self l).inv.red, red_rd (Rd_red l).inv]
theorem Fr.cancel (l : List Nat) : Fr (l ++ Pf.inv l) [] := by
  induction l with
  | nil => exact .refl _
  | cons c r ih =>
    have : Pf.inv (c :: r) = Pf.inv r ++ [sw c] := by simp [Pf.inv]
    rw [this]
    have h := (ih.right [sw c]).left [c]
    rw [List.append_assoc] at h
    exact h.trans (.pair [] c [])
theorem rd_iff (l : List Nat) : Rd l ↔ red l = l := ⟨red_rd, fun h => h ▸ Rd_red l⟩
/-- no pair stands anywhere -/
theorem rd_of_at : ∀ {l : List Nat}, (∀ (i : Nat) (x y : Nat), l[i]? = some x → l[i + 1]? = some y → x ≠ sw y) → Rd l
  | [], _ => trivial
  | [_], _ => trivial
  | x :: y :: r, h => ⟨h 0 x y rfl rfl, rd_of_at fun i a b ha hb => h (i + 1) a b ha hb⟩
theorem rd_at : ∀ {l : List Nat} {i x y : Nat}, Rd l → l[i]? = some x → l[i + 1]? = some y → x ≠ sw y
  | [], _, _, _, _, h, _ => by simp at h
  | [_], 0, _, _, _, _, h => by simp at h
  | [_], i + 1, _, _, _, h, _ => by simp at h
  | a :: b :: r, 0, x, y, h, h1, h2 => by
    have e1 : a = x := Option.some.inj h1
    have e2 : b = y := Option.some.inj h2
    rw [← e1, ← e2]; exact h.1
  | a :: b :: r, i + 1, x, y, h, h1, h2 => rd_at (i := i) h.2 h1 h2
theorem swap_S {l : List Nat} (h : IsP l) : Txt.swapcase (S l) = S (l.map sw) := by
  unfold Txt.swapcase
  have : placed (S l) (fun i c => if Unicode.isUpper c then Unicode.lowerAt (S l).cps i else if Unicode.isLower c then Unicode.upperOf c else [c]) = (S l).cps.map sw := by
    refine placed_single _ _ sw fun i c hc => ?_
    have hc' : c ∈ stepC := h c (by rw [← S_cps l]; exact List.mem_of_getElem? hc)
    have h1 : ∀ c ∈ stepC, (if Unicode.isUpper c = true then Unicode.lowerOf c else if Unicode.isLower c = true then Unicode.upperOf c else [c]) = [sw c] := by decide +kernel
    have h2 : Unicode.lowerAt (S l).cps i = Unicode.lowerOf c := by
      have hz : (S l).cps[i]? = some c := by rw [← Array.getElem?_toList]; exact hc
      unfold Unicode.lowerAt
      rw [hz]
      have hne : (c == 0x3A3) = false := by
        rw [beq_eq_false_iff_ne]; have := sw_lt c hc'; omega
      simp only [hne, Bool.false_and, Bool.false_eq_true, if_false]
    rw [h2]
    exact h1 c hc'
  rw [this]
  unfold S
  simp
/-- what is_path tells of a text -/
def isP (z : Str) : Bool := decide ((z.length : Int) ≤ 400) && z.cps.toList.all fun c => decide (c ∈ stepC)
theorem isP_S {l : List Nat} (h : IsP l) (hl : l.length ≤ 400) : isP (S l) = true := by
  unfold isP
  rw [S_cps, S_len, decide_eq_true (by omega), Bool.true_and, List.all_eq_true]
  exact fun c hc => decide_eq_true (h c hc)
theorem isP_of {z : Str} (h : isP z = true) : ∃ l, z = S l ∧ IsP l ∧ l.length ≤ 400 := by
  unfold isP at h
  rw [Bool.and_eq_true, decide_eq_true_eq, List.all_eq_true] at h
  refine ⟨z.cps.toList, S_of z, fun c hc => of_decide_eq_true (h.2 c hc), ?_⟩
  have := h.1
  rw [Array.length_toList]; unfold Str.length at this; omega
/-- what is not a path -/
def NotP (K : PySem.W.Frag) (H : Hp) (x : V) : Prop := (∃ z, x = .str z ∧ z.length ≤ 100000 ∧ isP z = false) ∨ ∃ t, TyX K H x t ∧ PySem.W.kitOne K t (.type "str") = some false
/-- an error of the class at C with one field is let out -/
def Err1 (C : Addr) (f : Str) (E : XK) (H : Hp) (x : V) : Prop := ∀ H', Same H H' → ∀ d, H' d = none → E (.ref C) (some d) (upd H' d (.xd [(f, x)]))
theorem Err1.at {C : Addr} {f : Str} {E : XK} {H H1 : Hp} {x : V} (h : Err1 C f E H x) (e : Same H H1) : Err1 C f E H1 x := fun H' e' d nd => h H' (e.trans e') d nd
def tx (l : List Nat) : V := .str (S l)
def NotSq (K : PySem.W.Frag) (H : Hp) (x : V) : Prop := ∃ t, TyX K H x t ∧ PySem.W.kitOne K t (.type "list") = some false ∧ PySem.W.kitOne K t (.type "tuple") = some false
theorem any_no {K : PySem.W.Frag} {t : Value} (h1 : PySem.W.kitOne K t (.type "list") = some false) (h2 : PySem.W.kitOne K t (.type "tuple") = some false) : PySem.W.kitAny K t [.type "list", .type "tuple"] = some false := by
  unfold PySem.W.kitAny; rw [h1]; unfold PySem.W.kitAny; rw [h2]; rfl
theorem any_yes {K : PySem.W.Frag} {t : Value} (h : t = .type "list" ∨ t = .type "tuple") : PySem.W.kitAny K t [.type "list", .type "tuple"] = some true := by
  rcases h with rfl | rfl
  · unfold PySem.W.kitAny; rw [kit_ty (r := true) (by decide +kernel)]
  · unfold PySem.W.kitAny; rw [kit_ty (r := false) (by decide +kernel)]; unfold PySem.W.kitAny; rw [kit_ty (r := true) (by decide +kernel)]
theorem NotP.at {K : PySem.W.Frag} {H H1 : Hp} {x : V} (h : NotP K H x) (e : Same H H1) : NotP K H1 x := by
  rcases h with h | ⟨t, h1, h2⟩
  · exact .inl h
  · exact .inr ⟨t, ty_same e h1, h2⟩
/-- what is no number -/
def NotI (K : PySem.W.Frag) (H : Hp) (x : V) : Prop := ∃ t, TyX K H x t ∧ (PySem.W.kitOne K t (.type "int") = some false ∨ (PySem.W.kitOne K t (.type "int") = some true ∧ PySem.W.kitOne K t (.type "bool") = some true))
theorem NotI.at {K : PySem.W.Frag} {H H1 : Hp} {x : V} (h : NotI K H x) (e : Same H H1) : NotI K H1 x := by
  obtain ⟨t, h1, h2⟩ := h
  exact ⟨t, ty_same e h1, h2⟩
theorem int_is {K : PySem.W.Frag} : PySem.W.kitOne K (.type "int") (.type "int") = some true := kit_ty (r := true) (by decide +kernel)
theorem int_nob {K : PySem.W.Frag} : PySem.W.kitOne K (.type "int") (.type "bool") = some false := kit_ty (r := false) (by decide +kernel)
/-- data that can be shown -/
def Shw (K : PySem.W.Frag) (H : Hp) (x : V) (d : PyData) : Prop := Dp K H x d ∧ d.showable = true ∧ d.hasDict = false ∧ d.depth ≤ 60 ∧ d.shown.length ≤ 16777216
theorem Shw.at {K : PySem.W.Frag} {H H1 : Hp} {x : V} {d : PyData} (h : Shw K H x d) (e : Same H H1) : Shw K H1 x d := ⟨dp_same e h.1, h.2⟩
theorem Shw.go {K : PySem.W.Frag} {H : Hp} {x : V} {d : PyData} {Q : VK} (h : Shw K H x d) (q : Q (.str d.shown) H) : rReprD K [x] H Q := g_reprD h.1 h.2.1 h.2.2.1 h.2.2.2.1 (by rw [sizeLine_eq]; exact h.2.2.2.2) q
theorem flat_len {ls : List (List Nat)} {m : Nat} (h : ∀ l ∈ ls, l.length ≤ m) : ls.flatten.length ≤ ls.length * m := by
  induction ls with
  | nil => simp
  | cons a r ih =>
    rw [List.flatten_cons, List.length_append, List.length_cons, Nat.succ_mul]
    have := h a List.mem_cons_self
    have := ih fun l hl => h l (List.mem_cons_of_mem _ hl)
    omega
/-- Lean data as the model's data: what == says of it -/
structure Emb {α : Type} [DecidableEq α] (f : α → PyData) (P : α → Prop) (n : Nat) : Prop where
  lay : ∀ a, P a → (f a).canLay0 = true
  dep : ∀ a, (f a).depth ≤ n
  eqv : ∀ a b, PyData.eqv (f a) (f b) = decide (a = b)
section
variable {α β γ : Type} [DecidableEq α] [DecidableEq β] [DecidableEq γ] {f : α → PyData} {g : β → PyData} {k : γ → PyData} {n m : Nat} {P : α → Prop} {R : β → Prop}
theorem Emb.shaped (e : Emb f P n) (a : α) (ha : P a) (h : n ≤ 64 := by decide) : SeqAt.shaped (f a) = true := by
  unfold SeqAt.shaped
  rw [e.lay a ha, Bool.true_and]
  exact decide_eq_true (Nat.le_trans (e.dep a) h)
theorem Emb.int : Emb PyData.int (fun _ => True) 0 := ⟨fun _ _ => rfl, fun _ => Nat.le_refl _, fun a b => by rw [PyData.eqv]; exact Bool.beq_eq_decide_eq a b⟩
theorem Emb.str : Emb PyData.str (fun z => (z.cps.all fun c => decide (c < 0x110000)) = true) 0 := ⟨fun _ h => by rw [PyData.canLay0]; exact h, fun _ => Nat.le_refl _, fun a b => by rw [PyData.eqv]; exact Bool.beq_eq_decide_eq a b⟩
theorem Emb.bool : Emb PyData.bool (fun _ => True) 0 := ⟨fun _ _ => rfl, fun _ => Nat.le_refl _, fun a b => by rw [PyData.eqv]; exact Bool.beq_eq_decide_eq a b⟩
theorem Emb.comp (e : Emb f P n) (h : β → α) (inj : ∀ a b, h a = h b → a = b) : Emb (fun b => f (h b)) (fun b => P (h b)) n :=
  ⟨fun _ q => e.lay _ q, fun _ => e.dep _, fun a b => by rw [e.eqv]; exact decide_eq_decide.mpr ⟨inj a b, fun q => by rw [q]⟩⟩
theorem Emb.all (e : Emb f P n) : ∀ l m : List α, PyData.eqvAll (l.map f) (m.map f) = decide (l = m)
  | [], [] => rfl
  | [], _ :: _ => by simp [PyData.eqvAll]
  | _ :: _, [] => by simp [PyData.eqvAll]
  | x :: l, y :: m => by
    rw [List.map_cons, List.map_cons, PyData.eqvAll, e.eqv, e.all l m]
    by_cases h : x = y
    · by_cases h2 : l = m <;> simp [h, h2]
    · simp [h]
theorem Emb.lays (e : Emb f P n) : ∀ l : List α, (∀ a ∈ l, P a) → PyData.canLayAll0 (l.map f) = true
  | [], _ => rfl
  | x :: l, h => by rw [List.map_cons, PyData.canLayAll0, e.lay _ (h _ List.mem_cons_self), e.lays l fun a ha => h a (List.mem_cons_of_mem _ ha)]; rfl
theorem Emb.deps (e : Emb f P n) : ∀ l : List α, PyData.depthAll (l.map f) ≤ n
  | [] => Nat.zero_le _
  | x :: l => by rw [List.map_cons, PyData.depthAll]; exact Nat.max_le.mpr ⟨e.dep x, e.deps l⟩
theorem Emb.list (e : Emb f P n) : Emb (fun l : List α => PyData.list (l.map f)) (fun l => ∀ a ∈ l, P a) (n + 1) :=
  ⟨fun l h => by rw [PyData.canLay0]; exact e.lays l h, fun l => by rw [PyData.depth]; have := e.deps l; omega, fun a b => by rw [PyData.eqv, e.all]⟩
theorem Emb.tupl (e : Emb f P n) : Emb (fun l : List α => PyData.tuple (l.map f)) (fun l => ∀ a ∈ l, P a) (n + 1) :=
  ⟨fun l h => by rw [PyData.canLay0]; exact e.lays l h, fun l => by rw [PyData.depth]; have := e.deps l; omega, fun a b => by rw [PyData.eqv, e.all]⟩
end
theorem dp_map {K : PySem.W.Frag} {H : Hp} {α : Type} {f : α → PyData} {v : α → V} (h : ∀ a, Dp K H (v a) (f a)) : ∀ l : List α, DpAll K H (l.map v) (l.map f)
  | [] => .nil
  | _ :: r => .cons (h _) (dp_map h r)
theorem eqv_nil {α : Type} [DecidableEq α] {f : α → PyData} {P : α → Prop} {n : Nat} (e : Emb f P n) (l : List α) : PyData.eqv (.list (l.map f)) (.list []) = decide (l = []) := e.list.eqv l []
theorem tx_dp {K : PySem.W.Frag} {H : Hp} {p : Addr} {ls : List (List Nat)} (h : H p = some (.lst (ls.map tx))) : Dp K H (.ref p) (.list ((ls.map S).map .str)) := by
  refine .lst (sq_of h) ?_
  have := dp_map (K := K) (H := H) (f := PyData.str) (v := V.str) (fun z => .str z) (ls.map S)
  rw [List.map_map] at this
  exact this
theorem tx_sh {ls : List (List Nat)} (h : ∀ l ∈ ls, IsP l) : SeqAt.shaped (.list ((ls.map S).map .str)) = true := Emb.str.list.shaped _ fun z hz => by
  obtain ⟨l, hl, rfl⟩ := List.mem_map.mp hz
  exact step_ok (h l hl)
theorem tx_leaves : ∀ {ls : List (List Nat)}, (∀ l ∈ ls, IsP l) → PyData.leavesShortAll 13 ((ls.map S).map .str) = true
  | [], _ => rfl
  | l :: r, h => by
    rw [List.map_cons, List.map_cons, PyData.leavesShortAll, tx_leaves fun m hm => h m (List.mem_cons_of_mem _ hm), Bool.and_true, PyData.leavesShort, S_cps, List.all_eq_true]
    exact fun c hc => decide_eq_true (by have := sw_lt c (h l List.mem_cons_self c hc); omega)
theorem tx_weight {m : Nat} : ∀ {ls : List (List Nat)}, (∀ l ∈ ls, l.length ≤ m) → PyData.weightAll ((ls.map S).map .str) ≤ ls.length * (m + 1)
  | [], _ => Nat.zero_le _
  | l :: r, h => by
    have h1 := tx_weight (m := m) (ls := r) fun k hk => h k (List.mem_cons_of_mem _ hk)
    have h2 := h l List.mem_cons_self
    have e : (S l).cps.size = l.length := by rw [← Array.length_toList, S_cps]
    rw [List.map_cons, List.map_cons, PyData.weightAll, PyData.weight, e, List.length_cons, Nat.succ_mul]
    omega
theorem tx_plain : ∀ {ls : List (List Nat)}, PyData.showableAll ((ls.map S).map .str) = true ∧ PyData.hasDictAll ((ls.map S).map .str) = false ∧ PyData.depthAll ((ls.map S).map .str) = 0
  | [] => ⟨rfl, rfl, rfl⟩
  | l :: r => by
    obtain ⟨h1, h2, h3⟩ := tx_plain (ls := r)
    rw [List.map_cons, List.map_cons]
    exact ⟨by rw [PyData.showableAll, h1]; rfl, by rw [PyData.hasDictAll, h2]; rfl, by rw [PyData.depthAll, h3]; rfl⟩
/-- a list of paths can be shown -/
theorem tx_shw {K : PySem.W.Frag} {H : Hp} {p : Addr} {ls : List (List Nat)} (h : H p = some (.lst (ls.map tx))) (hp : ∀ l ∈ ls, IsP l ∧ l.length ≤ 400) (n : ls.length ≤ 2000) : Shw K H (.ref p) (.list ((ls.map S).map .str)) := by
  obtain ⟨h1, h2, h3⟩ := tx_plain (ls := ls)
  refine ⟨tx_dp h, h1, h2, by rw [PyData.depth, h3]; decide, ?_⟩
  rw [← sizeLine_eq]
  refine PyData.shown_fits (B := 13) (by decide) (by decide) (tx_leaves fun l hl => (hp l hl).1) ?_
  rw [PyData.weight]
  have := tx_weight (m := 400) fun l hl => (hp l hl).2
  have : ls.length * 401 ≤ 2000 * 401 := Nat.mul_le_mul_right _ n
  omega
/-- all signs are low -/
def lowS (z : Str) : Prop := ∀ c ∈ z.cps.toList, c < 128
theorem lowS.ok {z : Str} (h : lowS z) : okS z := by
  unfold okS
  rw [← Array.all_toList, List.all_eq_true]
  exact fun c hc => decide_eq_true (by have := h c hc; omega)
theorem lowS.app {a b : Str} (h : lowS a) (k : lowS b) : lowS (a ++ b) := fun c hc => by
  rw [show (a ++ b).cps.toList = a.cps.toList ++ b.cps.toList from by show (Str.append a b).cps.toList = _; simp [Str.append]] at hc
  exact (List.mem_append.mp hc).elim (h c) (k c)
theorem low_lit {z : Str} (h : (z.cps.toList.all fun c => decide (c < 128)) = true) : lowS z := fun c hc => of_decide_eq_true (List.all_eq_true.mp h c hc)
theorem low_join {sep : Str} (hs : lowS sep) : ∀ ts : List Str, (∀ t ∈ ts, lowS t) → lowS (Str.join sep ts)
  | [], _ => fun c hc => by simp [Str.join, Str.empty] at hc
  | [a], h => by simpa [Str.join] using h a (by simp)
  | a :: b :: r, h => by
    show lowS (a ++ sep ++ Str.join sep (b :: r))
    exact ((h a (by simp)).app hs).app (low_join hs (b :: r) fun t ht => h t (List.mem_cons_of_mem _ ht))
theorem low_rep1 : ∀ q ∈ [39, 34], ∀ c < 128, ∀ d ∈ PySem.Builtin.Str.reprChar q c, d < 128 := by decide +kernel
theorem low_fold {q : Nat} (hq : q ∈ [39, 34]) : ∀ (l : List Nat) (acc : Array Nat), (∀ c ∈ l, c < 128) → (∀ d ∈ acc.toList, d < 128) → ∀ d ∈ (l.foldl (fun out c => out ++ (PySem.Builtin.Str.reprChar q c).toArray) acc).toList, d < 128
  | [], acc, _, h => h
  | c :: r, acc, hl, h => by
    refine low_fold hq r _ (fun x hx => hl x (List.mem_cons_of_mem _ hx)) fun d hd => ?_
    rw [Array.toList_append] at hd
    rcases List.mem_append.mp hd with k | k
    · exact h d k
    · exact low_rep1 q hq c (hl c List.mem_cons_self) d k
theorem low_quote (z : Str) : reprQuote z ∈ [39, 34] := by
  unfold reprQuote
  split <;> simp
theorem low_repr {z : Str} (h : lowS z) : lowS (reprText z) := by
  intro d hd
  unfold reprText at hd
  rw [show ∀ a : Array Nat, (Str.mk (a.push (reprQuote z))).cps.toList = a.toList ++ [reprQuote z] from fun a => by simp] at hd
  have hq := low_quote z
  have q128 : reprQuote z < 128 := by
    rcases List.mem_cons.mp hq with e | e
    · omega
    · have := List.mem_singleton.mp e; omega
  rcases List.mem_append.mp hd with k | k
  · rw [← Array.foldl_toList] at k
    exact low_fold hq _ _ h (fun d hd => by simp at hd; omega) d k
  · rw [List.mem_singleton.mp k]; exact q128
theorem low_list {ts : List Str} (h : ∀ t ∈ ts, lowS t) : lowS (listText ts) := by
  rw [listText_eq_join]
  exact ((low_lit (by decide +kernel)).app (low_join (low_lit (by decide +kernel)) ts h)).app (low_lit (by decide +kernel))
theorem cut_to (l : List Nat) (k : Nat) : cutS (S l) none (some (k : Int)) = S (l.take k) := by
  unfold cutS
  rw [HT.sIx_none, HT.sIx_nat, S_cps, S_len, List.drop_zero, Nat.sub_zero]
  show S _ = _
  congr 1
  by_cases h : k ≤ l.length
  · rw [Nat.min_eq_left h]
  · rw [Nat.min_eq_right (by omega), List.take_of_length_le (Nat.le_refl _), List.take_of_length_le (by omega)]
theorem cut_from (l : List Nat) (k : Nat) : cutS (S l) (some (k : Int)) none = S (l.drop k) := by
  unfold cutS
  rw [HT.sIx_none, HT.sIx_nat, S_cps, S_len]
  show S _ = _
  congr 1
  by_cases h : k ≤ l.length
  · rw [Nat.min_eq_left h, List.take_of_length_le (by rw [List.length_drop]; exact Nat.le_refl _)]
  · rw [Nat.min_eq_right (by omega), List.drop_of_length_le (Nat.le_refl _), List.drop_of_length_le (by omega), List.take_nil]
theorem cut_last (l : List Nat) (x : Nat) : cutS (S (l ++ [x])) none (some (-1)) = S l := by
  unfold cutS
  have e : HT.sIx (S (l ++ [x])).length (S (l ++ [x])).length (some (-1)) = l.length := by
    rw [S_len, List.length_append, List.length_singleton]
    show (if (-1 : Int) < 0 then ((-1 : Int) + ((l.length + 1 : Nat) : Int)).toNat else min (-1 : Int).toNat (l.length + 1)) = l.length
    rw [if_pos (by decide)]
    omega
  rw [e, HT.sIx_none, S_cps, List.drop_zero, Nat.sub_zero]
  show S _ = _
  congr 1
  simp
section
variable {P : Program} {w : World} {K : PySem.W.Frag} {mg : Str → Option Value} {base : Heap} {A : Ad}
theorem sc_law_bent : FnScope ["_law_pool_here", "_law_path_here", "_law_spot", "_law_sign"] ["_law_pool_here", "_law_path_here"] (defScope s_law_bent) := ⟨rfl, rfl, rfl, by decide +kernel, rfl, by decide +kernel, by decide +kernel⟩
def nm_law_bent : List Str := ["_law_pool_here", "_law_path_here", "_law_spot", "_law_sign"]
def bentS : List (List Nat) := [[101], [68], [32], [45], [49], [10], [], [97, 65], [69], [122]]
theorem bent_lit : ([V.str "e", .str "D", .str " ", .str "-", .str "1", .str "\n", .str "", .str "aA", .str "E", .str "z"] : List V) = bentS.map tx := by
  unfold bentS tx
  simp only [List.map]
  rw [show (Str.ofString "e") = S [101] from by decide +kernel, show (Str.ofString "D") = S [68] from by decide +kernel, show (Str.ofString " ") = S [32] from by decide +kernel, show (Str.ofString "-") = S [45] from by decide +kernel, show (Str.ofString "1") = S [49] from by decide +kernel,
    show (Str.ofString "\n") = S [10] from by decide +kernel, show (Str.ofString "") = S [] from by decide +kernel, show (Str.ofString "aA") = S [97, 65] from by decide +kernel, show (Str.ofString "E") = S [69] from by decide +kernel, show (Str.ofString "z") = S [122] from by decide +kernel]
theorem bent_low : ∀ l ∈ bentS, (∀ c ∈ l, c < 128) ∧ l.length ≤ 2 := by decide +kernel
def sp_law_bent (K : PySem.W.Frag) : Sp := fun vs H Q _ => ∃ (p : Addr) (l : List Nat), vs = [.ref p, .str (S l)] ∧ PoolAt H p ∧ IsP l ∧ l.length ≤ 40 ∧
  ∀ (m : List Nat) H', (∀ c ∈ m, c < 128) → m.length ≤ 50 → But p H H' → PoolAt H' p → Q (.str (S m)) H'
theorem ok_law_bent (T : Txt K mg A) : FnG P w K mg base CX0 2 A.a_law_bent A.d_law_bent ["_law_pool_here", "_law_path_here"] (sp_law_bent K) := by
  refine fn0 T.f_law_bent sc_law_bent (fun vs H Q E h => ?_) (fun cdv A_ outer s H vs Q E hr h => ?_)
  · first | (obtain ⟨_, rfl, _⟩ := h; rfl) | (obtain ⟨_, _, rfl, _⟩ := h; rfl) | (obtain ⟨_, _, _, rfl, _⟩ := h; rfl) | (obtain ⟨_, _, _, _, rfl, _⟩ := h; rfl) | (obtain ⟨_, _, _, _, _, rfl, _⟩ := h; rfl) | (obtain ⟨_, _, _, _, _, _, rfl, _⟩ := h; rfl) | (obtain ⟨rfl, _⟩ := h; rfl)
  · obtain ⟨p, l, rfl, hP, hl, hz, q⟩ := h
    refine ⟨_, (pss_cons (ps_set (i := 2) sc_law_bent.nd rfl (by first | exact Or.inl rfl | exact Or.inr rfl) (pc_pos (ok_law_take T) (hr.mono (by decide)) (by rfl) T.g_law_take T.f_law_take.kp T.b_law_take pass0 (pa_cons (pv 0) (pa_cons (pe_op op_addU (pe_callB (call_lenUK (K := K) rfl) (by rfl) T.z_len PySem.boot_len (pa_cons (pv 1) pa_nil)) pe_int) pa_nil))))
      (pss_cons (ps_set (i := 3) sc_law_bent.nd rfl (by first | exact Or.inl rfl | exact Or.inr rfl) (pe_ix (ix_seqK (K := K) rfl) (pe_lst (pa_cons pe_str (pa_cons pe_str (pa_cons pe_str (pa_cons pe_str (pa_cons pe_str (pa_cons pe_str (pa_cons pe_str (pa_cons pe_str (pa_cons pe_str (pa_cons pe_str pa_nil))))))))))) (pc_pos (ok_law_take T) (hr.mono (by decide)) (by rfl) T.g_law_take T.f_law_take.kp T.b_law_take pass0 (pa_cons (pv 0) (pa_cons pe_int pa_nil))) (fun _ _ => rfl)))
      (pss_one (ps_ret (pe_op op_addU (pe_op op_addU (pe_slice (sl_UK (K := K) rfl) (pv 1) po_none (po_some (pv 2))) (pv 3)) (pe_slice (sl_UK (K := K) rfl) (pv 1) (po_some (pe_op op_addU (pv 2) (pc_pos (ok_law_take T) (hr.mono (by decide)) (by rfl) T.g_law_take T.f_law_take.kp T.b_law_take pass0 (pa_cons (pv 0) (pa_cons pe_int pa_nil))))) po_none)))))), ?_⟩
    dsimp only [L2.cxOf, L2.Cx.nox, L2.Cx.wish, L2.start, List.map, List.length_cons, List.length_nil, Nat.reduceAdd, Nat.reduceSub, List.replicate, List.cons_append, List.nil_append, nm_law_bent]
    walk_at "hx go"
    refine g_lenS (by rw [S_len, sizeLine_eq]; omega) ?_
    rw [S_len]
    walk_at "hx go"
    refine ⟨p, (l.length : Int) + 1, rfl, hP, by omega, by omega, fun s H1 hs b1 f1 P1 => ?_⟩
    walk_at "hx go"
    refine g_sz (by simp) fun r nr => ?_
    walk_at "hx go"
    have nrp : r ≠ p := P1.ne nr
    refine ⟨p, 10, rfl, P1.oth nrp.symm, by decide, by decide, fun d H2 hd b2 f2 P2 => ?_⟩
    walk_at "hx go"
    have hr2 := b2 r _ nrp upd_same
    have d10 : d < bentS.length := by show d < 10; omega
    obtain ⟨lo, l2⟩ := bent_low _ (List.getElem_mem d10)
    have at2 : atI ([V.str "e", .str "D", .str " ", .str "-", .str "1", .str "\n", .str "", .str "aA", .str "E", .str "z"] : List V) (d : Int) = some (.str (S bentS[d])) := by
      rw [bent_lit]; exact atI_nat (by rw [List.getElem?_map, List.getElem?_eq_getElem d10]; rfl)
    refine g_ixL (sq_of hr2) at2 ?_
    walk_at "hx go"
    refine g_slS (by rw [S_len, sizeLine_eq]; omega) ?_
    rw [cut_to]
    walk_at "hx go"
    refine g_addS (by rw [S_len, S_len, List.length_take, sizeLine_eq]; omega) ?_
    rw [S_app]
    walk_at "hx go"
    refine ⟨p, 2, rfl, P2, by decide, by decide, fun e H3 he b3 f3 P3 => ?_⟩
    walk_at "hx go"
    refine g_slS (by rw [S_len, sizeLine_eq]; omega) ?_
    rw [show ((s : Int) + (e : Int)) = ((s + e : Nat) : Int) by omega, cut_from]
    walk_at "hx go"
    refine g_addS (by rw [S_len, S_len, List.length_append, List.length_take, List.length_drop, sizeLine_eq]; omega) ?_
    rw [S_app]
    refine q _ H3 (fun c hc => ?_) (by rw [List.length_append, List.length_append, List.length_take, List.length_drop]; omega) (((b1.new nr).trans b2).trans b3) P3
    rcases List.mem_append.mp hc with h | h
    · rcases List.mem_append.mp h with h | h
      · exact sw_lt c (hl c (List.mem_of_mem_take h))
      · exact lo c h
    · exact sw_lt c (hl c (List.mem_of_mem_drop h))

theorem sc_inverted : FnScope ["steps"] ["steps"] (defScope s_inverted) := ⟨rfl, rfl, rfl, by decide +kernel, rfl, by decide +kernel, by decide +kernel⟩
def nm_inverted : List Str := ["steps"]
def sp_inverted (K : PySem.W.Frag) : Sp := fun vs H Q _ => ∃ (l : List Nat), vs = [.str (S l)] ∧ IsP l ∧ l.length ≤ 1000000 ∧ Q (.str (S (inv l))) H
theorem ok_inverted (T : Txt K mg A) : FnG P w K mg base CX0 1 A.a_inverted A.d_inverted ["steps"] (sp_inverted K) := by
  refine fn0 T.f_inverted sc_inverted (fun vs H Q E h => ?_) (fun cdv A_ outer s H vs Q E hr h => ?_)
  · first | (obtain ⟨_, rfl, _⟩ := h; rfl) | (obtain ⟨_, _, rfl, _⟩ := h; rfl) | (obtain ⟨_, _, _, rfl, _⟩ := h; rfl) | (obtain ⟨_, _, _, _, rfl, _⟩ := h; rfl) | (obtain ⟨_, _, _, _, _, rfl, _⟩ := h; rfl) | (obtain ⟨_, _, _, _, _, _, rfl, _⟩ := h; rfl) | (obtain ⟨rfl, _⟩ := h; rfl)
  · obtain ⟨l, rfl, hl, hz, q⟩ := h
    refine ⟨_, (pss_one (ps_ret (pe_m0 PySem.F.slot_str_swapcase PySem.F.type_str_swapcase mt_swapcase (pe_revS (pv 0))))), ?_⟩
    dsimp only [L2.cxOf, L2.Cx.nox, L2.Cx.wish, L2.start, List.map, List.length_cons, List.length_nil, Nat.reduceAdd, Nat.reduceSub, List.replicate, List.cons_append, List.nil_append, nm_inverted]
    walk_at "hx go"
    refine ⟨by rw [S_len, sizeLine_eq]; omega, ?_⟩
    have e : (⟨(S l).cps.toList.reverse.toArray⟩ : Str) = S l.reverse := by rw [S_cps]; rfl
    rw [e]
    walk_at "hx go"
    refine ⟨rfl, by rw [S_len, List.length_reverse]; omega, ?_⟩
    rw [swap_S fun c hc => hl c (List.mem_reverse.mp hc)]
    exact q

theorem sc_LimitExceeded___init__ : FnScope ["self", "limit"] ["self", "limit"] (defScope s_LimitExceeded___init__) := ⟨rfl, rfl, rfl, by decide +kernel, rfl, by decide +kernel, by decide +kernel⟩
def nm_LimitExceeded___init__ : List Str := ["self", "limit"]
def sp_LimitExceeded___init__ (_ : PySem.W.Frag) (A : Ad) : Sp := sp_in1 A.k_LimitExceeded "limit"
theorem ok_LimitExceeded___init__ (T : Txt K mg A) : FnG P w K mg base CX0 1 A.a_LimitExceeded___init__ A.d_LimitExceeded___init__ ["self", "limit"] (sp_LimitExceeded___init__ K A) := by
  refine fn0 T.f_LimitExceeded___init__ sc_LimitExceeded___init__ (fun vs H Q E h => ?_) (fun cdv A_ outer s H vs Q E hr h => ?_)
  · first | (obtain ⟨_, rfl, _⟩ := h; rfl) | (obtain ⟨_, _, rfl, _⟩ := h; rfl) | (obtain ⟨_, _, _, rfl, _⟩ := h; rfl) | (obtain ⟨_, _, _, _, rfl, _⟩ := h; rfl) | (obtain ⟨_, _, _, _, _, rfl, _⟩ := h; rfl) | (obtain ⟨_, _, _, _, _, _, rfl, _⟩ := h; rfl) | (obtain ⟨rfl, _⟩ := h; rfl)
  · obtain ⟨a, v, rfl, ha, q⟩ := h
    refine ⟨_, (pss_cons (ps_expr (pe_iniB ebO_ok (by decide +kernel) (by rfl) T.z_OverflowError (by decide +kernel) (by kernel_rfl) (by decide +kernel) T.v_OverflowError (pa_cons (pv 0) (pa_cons pe_str pa_nil)))) (pss_one (ps_fld ebO_ok (pv 0) (pv 1)))), ?_⟩
    dsimp only [L2.cxOf, L2.Cx.nox, L2.Cx.wish, L2.start, List.map, List.length_cons, List.length_nil, Nat.reduceAdd, Nat.reduceSub, List.replicate, List.cons_append, List.nil_append, nm_LimitExceeded___init__]
    walk_at "hx go"
    refine ⟨a, A.k_LimitExceeded, [_], rfl, by decide, T.x_LimitExceeded, ha, ?_⟩
    walk_at "hx go"
    exact ⟨a, A.k_LimitExceeded, rfl, T.x_LimitExceeded, taker_of T.n_LimitExceeded_limit, Or.inl ⟨ha, fun dx nd ne => q dx nd ne⟩⟩

theorem sc_is_integer : FnScope ["value"] ["value"] (defScope s_is_integer) := ⟨rfl, rfl, rfl, by decide +kernel, rfl, by decide +kernel, by decide +kernel⟩
def nm_is_integer : List Str := ["value"]
def sp_is_integer (K : PySem.W.Frag) : Sp := fun vs H Q _ => ∃ (x : V) (t : Value) (b1 b2 b : Bool), vs = [x] ∧ TyX K H x t ∧ PySem.W.kitOne K t (.type "int") = some b1 ∧ (b1 = true → PySem.W.kitOne K t (.type "bool") = some b2) ∧ b = (b1 && !b2) ∧ Q (.bl b) H
theorem ok_is_integer (T : Txt K mg A) : FnG P w K mg base CX0 1 A.a_is_integer A.d_is_integer ["value"] (sp_is_integer K) := by
  refine fn0 T.f_is_integer sc_is_integer (fun vs H Q E h => ?_) (fun cdv A_ outer s H vs Q E hr h => ?_)
  · first | (obtain ⟨_, rfl, _⟩ := h; rfl) | (obtain ⟨_, _, rfl, _⟩ := h; rfl) | (obtain ⟨_, _, _, rfl, _⟩ := h; rfl) | (obtain ⟨_, _, _, _, rfl, _⟩ := h; rfl) | (obtain ⟨_, _, _, _, _, rfl, _⟩ := h; rfl) | (obtain ⟨_, _, _, _, _, _, rfl, _⟩ := h; rfl) | (obtain ⟨rfl, _⟩ := h; rfl)
  · obtain ⟨x, t, b1, b2, b, rfl, ht, e1, e2, rfl, q⟩ := h
    refine ⟨_, (pss_one (ps_ret (pe_and (pe_callB (call_isiUK (K := K) rfl) (by rfl) T.z_isinstance PyProof.Rows.boot_isinstance (pa_cons (pv 0) (pa_cons (pe_bltn (v := .ty "int") (by rfl) T.z_int (by decide +kernel) rfl) pa_nil))) (pe_one (pe_not (pe_callB (call_isiUK (K := K) rfl) (by rfl) T.z_isinstance PyProof.Rows.boot_isinstance (pa_cons (pv 0) (pa_cons (pe_bltn (v := .ty "bool") (by rfl) T.z_bool (by decide +kernel) rfl) pa_nil)))))))), ?_⟩
    dsimp only [L2.cxOf, L2.Cx.nox, L2.Cx.wish, L2.start, List.map, List.length_cons, List.length_nil, Nat.reduceAdd, Nat.reduceSub, List.replicate, List.cons_append, List.nil_append, nm_is_integer]
    walk_at "hx go"
    refine g_isi (.ty _) ht e1 ?_
    walk_at "hx go"
    cases b1 with
    | true =>
      walk_at "hx go"
      refine g_isi (.ty _) ht (e2 rfl) ?_
      walk_at "hx go"
      exact q
    | false =>
      walk_at "hx go"
      exact q

theorem sc_InvalidNumber___init__ : FnScope ["self", "value"] ["self", "value"] (defScope s_InvalidNumber___init__) := ⟨rfl, rfl, rfl, by decide +kernel, rfl, by decide +kernel, by decide +kernel⟩
def nm_InvalidNumber___init__ : List Str := ["self", "value"]
def sp_InvalidNumber___init__ (_ : PySem.W.Frag) (A : Ad) : Sp := sp_in1 A.k_InvalidNumber "value"
theorem ok_InvalidNumber___init__ (T : Txt K mg A) : FnG P w K mg base CX0 1 A.a_InvalidNumber___init__ A.d_InvalidNumber___init__ ["self", "value"] (sp_InvalidNumber___init__ K A) := by
  refine fn0 T.f_InvalidNumber___init__ sc_InvalidNumber___init__ (fun vs H Q E h => ?_) (fun cdv A_ outer s H vs Q E hr h => ?_)
  · first | (obtain ⟨_, rfl, _⟩ := h; rfl) | (obtain ⟨_, _, rfl, _⟩ := h; rfl) | (obtain ⟨_, _, _, rfl, _⟩ := h; rfl) | (obtain ⟨_, _, _, _, rfl, _⟩ := h; rfl) | (obtain ⟨_, _, _, _, _, rfl, _⟩ := h; rfl) | (obtain ⟨_, _, _, _, _, _, rfl, _⟩ := h; rfl) | (obtain ⟨rfl, _⟩ := h; rfl)
  · obtain ⟨a, v, rfl, ha, q⟩ := h
    refine ⟨_, (pss_cons (ps_expr (pe_iniC ebV_ok (by decide +kernel) (by rfl) T.g_PathError T.s_PathError T.r_PathError T.v_PathError (pa_cons (pv 0) (pa_cons pe_str pa_nil)))) (pss_one (ps_fld ebV_ok (pv 0) (pv 1)))), ?_⟩
    dsimp only [L2.cxOf, L2.Cx.nox, L2.Cx.wish, L2.start, List.map, List.length_cons, List.length_nil, Nat.reduceAdd, Nat.reduceSub, List.replicate, List.cons_append, List.nil_append, nm_InvalidNumber___init__]
    walk_at "hx go"
    refine ⟨a, A.k_InvalidNumber, [_], rfl, by decide, T.x_InvalidNumber, ha, ?_⟩
    walk_at "hx go"
    exact ⟨a, A.k_InvalidNumber, rfl, T.x_InvalidNumber, taker_of T.n_InvalidNumber_value, Or.inl ⟨ha, fun dx nd ne => q dx nd ne⟩⟩

end
/-- a cut out of the middle of a text -/
theorem cut_mid (l : List Nat) (i j : Nat) (h : i ≤ l.length) (h2 : j ≤ l.length) : cutS (S l) (some (i : Int)) (some (j : Int)) = S ((l.drop i).take (j - i)) := by
  unfold cutS
  rw [HT.sIx_nat, HT.sIx_nat, S_cps, S_len, Nat.min_eq_left h, Nat.min_eq_left h2]
  rfl
theorem Rd.app : ∀ {a b : List Nat}, Rd a → Rd b → (∀ x y, a.getLast? = some x → b.head? = some y → x ≠ sw y) → Rd (a ++ b)
  | [], b, _, hb, _ => hb
  | [x], [], _, _, _ => trivial
  | [x], y :: b, _, hb, h => ⟨h x y rfl rfl, hb⟩
  | x :: x2 :: a, b, ha, hb, h => ⟨ha.1, Rd.app (a := x2 :: a) ha.2 hb fun u v hu hv => h u v (by rw [List.getLast?_cons_cons]; exact hu) hv⟩
theorem Rd.take {a b : List Nat} (h : Rd (a ++ b)) : Rd a := by
  refine rd_of_at fun i x y h1 h2 => ?_
  have l1 := (List.getElem?_eq_some_iff.mp h1).1
  have l2 := (List.getElem?_eq_some_iff.mp h2).1
  exact rd_at h (i := i) (by rw [List.getElem?_append_left l1]; exact h1) (by rw [List.getElem?_append_left l2]; exact h2)
/-- the first letter is not the last one's inverse -/
def Cyc (c : List Nat) : Prop := ∀ x y, c.head? = some x → c.getLast? = some y → x ≠ sw y
theorem sw_ne : ∀ c ∈ stepC, c ≠ sw c := by decide +kernel
theorem Cyc.one {x : Nat} (h : x ∈ stepC) : Cyc [x] := fun a b ha hb => by
  cases ha; cases hb; exact sw_ne _ h
theorem Cyc.nil : Cyc [] := fun _ _ h => by cases h
/-- a stem, a core -/
def CoreAt (l : List Nat) (k : Nat) (c : List Nat) : Prop := ∃ u, u.length = k ∧ l = u ++ c ++ inv u
theorem CoreAt.start (l : List Nat) : CoreAt l 0 l := ⟨[], rfl, by simp [inv]⟩
theorem CoreAt.len {l c : List Nat} {k : Nat} (h : CoreAt l k c) : l.length = 2 * k + c.length := by
  obtain ⟨u, rfl, rfl⟩ := h
  rw [List.length_append, List.length_append, inv_len]; omega
theorem CoreAt.first {l c : List Nat} {k : Nat} (h : CoreAt l k c) (hc : c ≠ []) : l[k]? = c.head? := by
  obtain ⟨u, rfl, rfl⟩ := h
  cases c with
  | nil => exact absurd rfl hc
  | cons x r => rw [List.append_assoc, List.getElem?_append_right (Nat.le_refl _), Nat.sub_self]; rfl
theorem CoreAt.last {l c : List Nat} {k : Nat} (h : CoreAt l k c) (hc : c ≠ []) : l[l.length - 1 - k]? = c.getLast? := by
  have e := h.len
  obtain ⟨u, rfl, rfl⟩ := h
  have p : 0 < c.length := List.length_pos_iff.mpr hc
  rw [e, List.append_assoc, List.getElem?_append_right (by omega), List.getElem?_append_left (by omega), List.getLast?_eq_getElem?]
  congr 1; omega
theorem CoreAt.more {l m : List Nat} {x y k : Nat} (h : CoreAt l k (x :: (m ++ [y]))) (e : x = sw y) : CoreAt l (k + 1) m := by
  obtain ⟨u, rfl, rfl⟩ := h
  refine ⟨u ++ [x], by rw [List.length_append]; rfl, ?_⟩
  rw [inv_app, show inv [x] = [y] from by rw [e]; show [sw (sw y)] = [y]; rw [sw_sw]]
  simp
theorem two_ends {c : List Nat} (h : 2 ≤ c.length) : ∃ x m y, c = x :: (m ++ [y]) := by
  cases c with
  | nil => simp at h
  | cons x r =>
    have : r ≠ [] := fun e => by rw [e] at h; simp at h
    exact ⟨x, r.dropLast, r.getLast this, by rw [List.dropLast_concat_getLast]⟩
theorem CoreAt.stem {l c : List Nat} {k : Nat} (h : CoreAt l k c) : l = l.take k ++ c ++ inv (l.take k) := by
  obtain ⟨u, rfl, e⟩ := h
  rw [e, List.append_assoc, List.take_left, ← List.append_assoc]
theorem CoreAt.core {l c : List Nat} {k : Nat} (h : CoreAt l k c) : (l.drop k).take (l.length - k - k) = c := by
  have e := h.len
  obtain ⟨u, rfl, rfl⟩ := h
  rw [e, List.append_assoc, List.drop_left, show 2 * u.length + c.length - u.length - u.length = c.length by omega, List.take_left]
/-- n times -/
def pw (c : List Nat) (n : Nat) : List Nat := (List.replicate n c).flatten
theorem pw_succ (c : List Nat) (n : Nat) : pw c (n + 1) = c ++ pw c n := by unfold pw; rw [List.replicate_succ, List.flatten_cons]
theorem pw_zero (c : List Nat) : pw c 0 = [] := rfl
theorem pw_len (c : List Nat) (n : Nat) : (pw c n).length = n * c.length := by
  unfold pw; rw [List.length_flatten, List.map_replicate, List.sum_replicate_nat]
theorem pw_P {c : List Nat} (h : IsP c) (n : Nat) : IsP (pw c n) := fun x hx => by
  obtain ⟨m, hm, hx⟩ := List.mem_flatten.mp hx
  rw [(List.mem_replicate.mp hm).2] at hx
  exact h x hx
theorem rd_pow {u c v : List Nat} (hu : Rd (u ++ c)) (hv : Rd (c ++ v)) (hc : Cyc c) (n0 : c ≠ []) : ∀ n, Rd (c ++ pw c n ++ v)
  | 0 => by rw [pw_zero, List.append_nil]; exact hv
  | n + 1 => by
    have ih := rd_pow hu hv hc n0 n
    rw [pw_succ, List.append_assoc]
    refine Rd.app hu.drop ih fun x y hx hy => ?_
    cases c with
    | nil => exact absurd rfl n0
    | cons z r =>
      cases (show some z = some y from hy)
      intro e
      exact hc y x rfl hx (by rw [e, sw_sw])
theorem rd_pow2 {u c : List Nat} (h : Rd (u ++ c ++ inv u)) (hc : Cyc c) (n0 : c ≠ []) (n : Nat) : Rd (u ++ pw c (n + 1) ++ inv u) := by
  have h1 : Rd (u ++ c) := h.take
  have h2 : Rd (c ++ inv u) := by rw [List.append_assoc] at h; exact h.drop
  have h3 := rd_pow h1 h2 hc n0 n
  rw [pw_succ, List.append_assoc]
  refine Rd.app h1.take h3 fun x y hx hy => ?_
  cases c with
  | nil => exact absurd rfl n0
  | cons z r =>
    cases (show some z = some y from hy)
    have lx : u[u.length - 1]? = some x := by rw [← List.getLast?_eq_getElem?]; exact hx
    have lp := (List.getElem?_eq_some_iff.mp lx).1
    refine rd_at h1 (i := u.length - 1) (by rw [List.getElem?_append_left lp]; exact lx) ?_
    rw [List.getElem?_append_right (by omega), show u.length - 1 + 1 - u.length = 0 by omega]; rfl
theorem fr_pow (u c : List Nat) : ∀ n, Fr (pw (u ++ c ++ inv u) n) (u ++ pw c n ++ inv u)
  | 0 => by rw [pw_zero, pw_zero, List.append_nil]; exact (Fr.cancel u).symm
  | n + 1 => by
    have ih := fr_pow u c n
    rw [pw_succ, pw_succ]
    refine (ih.left _).trans ?_
    have z : Fr (inv u ++ u) [] := by have := Fr.cancel (inv u); rw [inv_inv] at this; exact this
    have q := (z.left (u ++ c)).right (pw c n ++ inv u)
    simpa [List.append_assoc] using q
theorem red_pow {u c : List Nat} (h : Rd (u ++ c ++ inv u)) (hc : Cyc c) (n0 : c ≠ []) (n : Nat) : red (pw (u ++ c ++ inv u) (n + 1)) = u ++ pw c (n + 1) ++ inv u := by
  rw [(fr_pow u c (n + 1)).red, red_rd (rd_pow2 h hc n0 n)]
theorem core_nil {u : List Nat} (h : Rd (u ++ inv u)) : u = [] := by
  have e := red_rd h
  rw [(Fr.cancel u).red] at e
  have : (u ++ inv u).length = 0 := by rw [← e]; rfl
  rw [List.length_append] at this
  exact List.length_eq_zero_iff.mp (by omega)
theorem Cyc.inv {c : List Nat} (h : Cyc c) : Cyc (inv c) := fun x y hx hy e => by
  unfold Pf.inv at hx hy
  rw [List.head?_map, List.head?_reverse] at hx
  rw [List.getLast?_map, List.getLast?_reverse] at hy
  cases h1 : c.getLast? with
  | none => rw [h1] at hx; cases hx
  | some a =>
    cases h2 : c.head? with
    | none => rw [h2] at hy; cases hy
    | some b =>
      rw [h1] at hx; rw [h2] at hy
      cases (show some (sw a) = some x from hx); cases (show some (sw b) = some y from hy)
      rw [sw_sw] at e
      exact h b a h2 h1 e.symm
theorem mulS_S (c : List Nat) (n : Nat) : mulS (S c) n = S (pw c n) := by unfold mulS; rw [S_cps]; rfl
theorem core_ex : ∀ (n : Nat) (l : List Nat), l.length ≤ n → IsP l → ∃ u c, l = u ++ c ++ inv u ∧ Cyc c
  | 0, l, h, _ => ⟨[], [], by rw [List.length_eq_zero_iff.mp (Nat.le_zero.mp h)]; rfl, Cyc.nil⟩
  | n + 1, l, h, hp => by
    by_cases h2 : 2 ≤ l.length
    · obtain ⟨x, m, y, rfl⟩ := two_ends h2
      by_cases e : x = sw y
      · obtain ⟨u, c, hm, cy⟩ := core_ex n m (by simp at h; omega) (fun z hz => hp z (by simp [hz]))
        refine ⟨x :: u, c, ?_, cy⟩
        rw [hm, show inv (x :: u) = inv u ++ [sw x] from by unfold inv; simp, e, sw_sw]
        simp
      · refine ⟨[], _, by simp [inv]; rfl, fun a b ha hb ee => e ?_⟩
        cases ha
        rw [← List.cons_append, List.getLast?_concat] at hb
        cases hb
        exact ee
    · cases l with
      | nil => exact ⟨[], [], rfl, Cyc.nil⟩
      | cons x r =>
        cases r with
        | nil => exact ⟨[], [x], rfl, Cyc.one (hp x (by simp))⟩
        | cons y r => simp at h2
/-- the power of the stem u and the core c -/
def powOut (u c : List Nat) (n : Int) : List Nat := if c = [] ∨ n = 0 then [] else u ++ pw (if n < 0 then inv c else c) n.natAbs ++ inv u
def powBig (u c : List Nat) (n : Int) : Prop := ¬(c = [] ∨ n = 0) ∧ 400 < 2 * (u.length : Int) + c.length * n.natAbs
theorem pow_two {l u c : List Nat} (h : red l = u ++ c ++ inv u) (cy : Cyc c) : red (l ++ l) = powOut u c 2 := by
  have rr : Rd (u ++ c ++ inv u) := h ▸ Rd_red l
  have e : red (l ++ l) = red (red l ++ red l) := ((Fr.self l).app (Fr.self l)).red
  unfold powOut
  by_cases c0 : c = []
  · rw [if_pos (.inl c0), e, h, c0]
    rw [c0, List.append_nil] at rr
    rw [core_nil rr]; rfl
  · rw [if_neg (by rintro (z | z); exact c0 z; exact absurd z (by decide)), if_neg (by decide), e, h]
    have z := red_pow rr cy c0 1
    rw [pw_succ, pw_succ, pw_zero, List.append_nil] at z
    exact z
theorem core_uniq {u c u' c' : List Nat} (h : u ++ c ++ inv u = u' ++ c' ++ inv u') (cy : Cyc c) (cy' : Cyc c') : u = u' ∧ c = c' := by
  have le : ∀ {u c u' c' : List Nat}, u ++ c ++ inv u = u' ++ c' ++ inv u' → Cyc c → ¬ u.length < u'.length := by
    intro u c u' c' h cy lt
    have hl := congrArg List.length h
    simp only [List.length_append, inv_len] at hl
    obtain ⟨x, m, y, rfl⟩ := two_ends (c := c) (by omega)
    have a1 : CoreAt (u ++ (x :: (m ++ [y])) ++ inv u) u.length (x :: (m ++ [y])) := ⟨u, rfl, rfl⟩
    have f1 := a1.first (by simp)
    have f2 := a1.last (by simp)
    rw [h] at f1 f2
    have len2 : (u' ++ c' ++ inv u').length = 2 * u'.length + c'.length := by rw [List.length_append, List.length_append, inv_len]; omega
    rw [List.append_assoc, List.getElem?_append_left lt] at f1
    rw [len2, List.getElem?_append_right (by rw [List.length_append]; omega), List.length_append] at f2
    unfold inv at f2
    rw [List.getElem?_map, List.getElem?_reverse (by omega)] at f2
    rw [show u'.length - 1 - (2 * u'.length + c'.length - 1 - u.length - (u'.length + c'.length)) = u.length by omega, f1] at f2
    rw [← List.cons_append, List.getLast?_concat] at f2
    cases (show some (sw x) = some y from f2)
    exact cy x (sw x) rfl (by rw [← List.cons_append, List.getLast?_concat]) (sw_sw x).symm
  have e : u.length = u'.length := by
    have h1 := le h cy
    have h2 := le h.symm cy'
    omega
  rw [List.append_assoc, List.append_assoc] at h
  obtain ⟨e1, e2⟩ := List.append_inj h e
  subst e1
  exact ⟨rfl, List.append_cancel_right e2⟩
theorem rd_rep {c : Nat} (h : c ∈ stepC) : ∀ n, Rd (List.replicate n c)
  | 0 => trivial
  | 1 => trivial
  | n + 2 => ⟨sw_ne c h, rd_rep h (n + 1)⟩
theorem rep_P {c : Nat} (h : c ∈ stepC) (n : Nat) : IsP (List.replicate n c) := fun d hd => by rw [(List.mem_replicate.mp hd).2]; exact h
theorem pw_one (c : Nat) (n : Nat) : pw [c] n = List.replicate n c := by
  unfold pw
  induction n with
  | zero => rfl
  | succ n ih => rw [List.replicate_succ, List.flatten_cons, ih]; rfl
theorem rep_flat (n : Nat) (c : Nat) : (List.replicate n [c]).flatten = List.replicate n c := pw_one c n
theorem inv_rep (n c : Nat) : inv (List.replicate n c) = List.replicate n (sw c) := by unfold inv; rw [List.reverse_replicate, List.map_replicate]
section
variable {P : Program} {w : World} {K : PySem.W.Frag} {mg : Str → Option Value} {base : Heap} {A : Ad}
theorem sc_split_core : FnScope ["steps", "size"] ["steps"] (defScope s_split_core) := ⟨rfl, rfl, rfl, by decide +kernel, rfl, by decide +kernel, by decide +kernel⟩
def nm_split_core : List Str := ["steps", "size"]
def sp_split_core (K : PySem.W.Frag) : Sp := fun vs H Q _ => ∃ (l : List Nat), vs = [.str (S l)] ∧ IsP l ∧ l.length ≤ 400 ∧
  ∀ u c p H', l = u ++ c ++ inv u → Cyc c → H p = none → H' = upd H p (.tup [.str (S u), .str (S c)]) → Q (.ref p) H'
theorem ok_split_core (T : Txt K mg A) : FnG P w K mg base CX0 1 A.a_split_core A.d_split_core ["steps"] (sp_split_core K) := by
  refine fn0 T.f_split_core sc_split_core (fun vs H Q E h => ?_) (fun cdv A_ outer s H vs Q E hr h => ?_)
  · first | (obtain ⟨_, rfl, _⟩ := h; rfl) | (obtain ⟨_, _, rfl, _⟩ := h; rfl) | (obtain ⟨_, _, _, rfl, _⟩ := h; rfl) | (obtain ⟨_, _, _, _, rfl, _⟩ := h; rfl) | (obtain ⟨_, _, _, _, _, rfl, _⟩ := h; rfl) | (obtain ⟨_, _, _, _, _, _, rfl, _⟩ := h; rfl) | (obtain ⟨rfl, _⟩ := h; rfl)
  · obtain ⟨l, rfl, hl, hz, q⟩ := h
    refine ⟨_, (pss_cons (ps_set (i := 1) sc_split_core.nd rfl (by first | exact Or.inl rfl | exact Or.inr rfl) pe_int)
      (pss_cons (ps_while PassesOwn.never (PW.pt (pw_and (pt_cmpR (op_ltUK (K := K) rfl hr.units) (pe_op op_addU (pe_op op_mulU pe_int (pv 1)) pe_int) (pe_callB (call_lenUK (K := K) rfl) (by rfl) T.z_len PySem.boot_len (pa_cons (pv 0) pa_nil)) rfl) (pw_and1 (pt_cmpR (op_eqUK (K := K) rfl hr.units) (pe_ix (ix_seqK (K := K) rfl) (pv 0) (pv 1) (fun _ _ => rfl)) (pe_m0 PySem.F.slot_str_swapcase PySem.F.type_str_swapcase mt_swapcase (pe_ix (ix_seqK (K := K) rfl) (pv 0) (pe_op op_sub (pe_op op_sub (pe_callB (call_lenUK (K := K) rfl) (by rfl) T.z_len PySem.boot_len (pa_cons (pv 0) pa_nil)) pe_int) (pv 1)) (fun _ _ => rfl))) rfl)))) (pss_one (ps_aug (i := 1) sc_split_core.nd rfl (by first | exact Or.inl rfl | exact Or.inr rfl) pe_int ip_add)))
      (pss_one (ps_ret (pe_tup (pa_cons (pe_slice (sl_UK (K := K) rfl) (pv 0) po_none (po_some (pv 1))) (pa_cons (pe_slice (sl_UK (K := K) rfl) (pv 0) (po_some (pv 1)) (po_some (pe_op op_sub (pe_callB (call_lenUK (K := K) rfl) (by rfl) T.z_len PySem.boot_len (pa_cons (pv 0) pa_nil)) (pv 1)))) pa_nil))))))), ?_⟩
    dsimp only [L2.cxOf, L2.Cx.nox, L2.Cx.wish, L2.start, List.map, List.length_cons, List.length_nil, Nat.reduceAdd, Nat.reduceSub, List.replicate, List.cons_append, List.nil_append, nm_split_core]
    walk_at "hx go"
    refine ⟨fun m σ H' => ∃ (k : Nat) (c : List Nat), σ = [some (.str (S l)), some (.int k)] ∧ H' = H ∧ CoreAt l k c ∧ m = c.length, ⟨_, 0, l, rfl, rfl, CoreAt.start l, rfl⟩, ?_⟩
    rintro m σ H' ⟨k, c, rfl, rfl, hc, rfl⟩
    have e := hc.len
    walk_at "hx go"
    refine g_mulI (.inl ⟨(by decide : -(2 ^ 64) < (2 : Int)), by decide⟩) ?_
    walk_at "hx go"
    refine g_lenS (by rw [S_len, sizeLine_eq]; omega) ?_
    rw [S_len]
    walk_at "hx go"
    have fin : Cyc c → ∀ p, H' p = none → Q (.ref p) (upd H' p (.tup [.str (S (l.take k)), .str (S ((l.drop k).take (l.length - k - k)))])) := fun cy p np => by
      refine q _ c p _ hc.stem cy np ?_
      rw [hc.core]
    have tail : Cyc c → ∀ p, H' p = none → Q (.ref p) (upd H' p (.tup [.str (cutS (S l) none (some (k : Int))), .str (cutS (S l) (some (k : Int)) (some ((l.length : Int) - k)))])) := fun cy p np => by
      rw [cut_to, show ((l.length : Int) - k) = ((l.length - k : Nat) : Int) by omega, cut_mid _ _ _ (by omega) (by omega)]
      exact fin cy p np
    refine g_byD (fun h2 => ?_) (fun h2 => ?_)
    · walk_at "hx go"
      obtain ⟨x, r, y, rfl⟩ := two_ends (c := c) (by omega)
      have h1 := hc.first (by simp)
      have h3 := hc.last (by simp)
      rw [← List.cons_append, List.getLast?_concat] at h3
      refine g_ixS (n := x) (by rw [S_len, sizeLine_eq]; omega) (by rw [S_cps]; exact atI_nat h1) ?_
      walk_at "hx go"
      refine g_lenS (by rw [S_len, sizeLine_eq]; omega) ?_
      rw [S_len]
      walk_at "hx go"
      refine g_ixS (n := y) (by rw [S_len, sizeLine_eq]; omega) (by rw [S_cps, show ((l.length : Int) - 1 - k) = ((l.length - 1 - k : Nat) : Int) by omega]; exact atI_nat h3) ?_
      walk_at "hx go"
      have hy : y ∈ stepC := hl y (List.mem_of_getElem? h3)
      refine ⟨rfl, (by show 1 ≤ 5592405; decide), ?_⟩
      rw [sg_S, sg_S, swap_S (IsP.one hy)]
      walk_at "hx go"
      refine g_byD (fun h4 => ?_) (fun h4 => ?_)
      · walk_at "hx go"
        have e4 : x = sw y := by have := S_inj h4; simpa using this
        refine ⟨fun σ' G => ∃ (k : Nat) (c : List Nat), σ' = [some (.str (S l)), some (.int k)] ∧ G = H' ∧ CoreAt l k c ∧ c.length = r.length, ?_, ?_⟩
        · rintro σ' G ⟨k2, c2, rfl, rfl, h5, h6⟩
          exact ⟨c2.length, by rw [h6]; simp; omega, k2, c2, rfl, rfl, h5, rfl⟩
        · walk_at "hx go"
          exact ⟨k + 1, r, rfl, rfl, hc.more e4, rfl⟩
      · walk_at "hx go"
        refine g_slS (by rw [S_len, sizeLine_eq]; omega) ?_
        walk_at "hx go"
        refine g_lenS (by rw [S_len, sizeLine_eq]; omega) ?_
        rw [S_len]
        walk_at "hx go"
        refine g_slS (by rw [S_len, sizeLine_eq]; omega) ?_
        walk_at "hx go"
        refine g_sz (by simp) fun p np => ?_
        refine tail (fun a b ha hb ee => h4 ?_) p np
        cases ha
        rw [← List.cons_append, List.getLast?_concat] at hb
        cases hb
        rw [ee]; rfl
    · walk_at "hx go"
      have c1 : Cyc c := by
        cases c with
        | nil => exact Cyc.nil
        | cons x r =>
          cases r with
          | nil =>
            have h1 := hc.first (by simp)
            exact Cyc.one (hl x (List.mem_of_getElem? h1))
          | cons y r => simp at e; omega
      refine g_slS (by rw [S_len, sizeLine_eq]; omega) ?_
      walk_at "hx go"
      refine g_lenS (by rw [S_len, sizeLine_eq]; omega) ?_
      rw [S_len]
      walk_at "hx go"
      refine g_slS (by rw [S_len, sizeLine_eq]; omega) ?_
      walk_at "hx go"
      refine g_sz (by simp) fun p np => ?_
      exact tail c1 p np

theorem sc_reduce_all : FnScope ["parts", "kept", "part", "step"] ["parts"] (defScope s_reduce_all) := ⟨rfl, rfl, rfl, by decide +kernel, rfl, by decide +kernel, by decide +kernel⟩
def nm_reduce_all : List Str := ["parts", "kept", "part", "step"]
def sp_reduce_all (K : PySem.W.Frag) : Sp := fun vs H Q _ => ∃ (a : Addr) (ls : List (List Nat)), vs = [.ref a] ∧ Sq K H a (ls.map fun l => V.str (S l)) ∧ (∀ l ∈ ls, IsP l) ∧ ls.flatten.length ≤ 1000000 ∧
  ∀ H', Same H H' → Q (.str (S (red ls.flatten))) H'
/-- the list that holds a stack of letters -/
def stk (st : List Nat) : List V := (st.reverse.map sg).map V.str
theorem stk_cons (x : Nat) (r : List Nat) : stk (x :: r) = stk r ++ [V.str (S [x])] := by simp [stk, sg]
theorem stk_len (st : List Nat) : (stk st).length = st.length := by simp [stk]
theorem stk_data {K : PySem.W.Frag} {H : Hp} {p : Addr} {st : List Nat} (h : H p = some (.lst (stk st))) : Dp K H (.ref p) (.list ((st.reverse.map sg).map .str)) := .lst (sq_of h) (by
  unfold stk
  exact dp_map (fun z => .str z) _)
theorem ok_reduce_all (T : Txt K mg A) : FnG P w K mg base CX0 1 A.a_reduce_all A.d_reduce_all ["parts"] (sp_reduce_all K) := by
  refine fn0 T.f_reduce_all sc_reduce_all (fun vs H Q E h => ?_) (fun cdv A_ outer s H vs Q E hr h => ?_)
  · first | (obtain ⟨_, rfl, _⟩ := h; rfl) | (obtain ⟨_, _, rfl, _⟩ := h; rfl) | (obtain ⟨_, _, _, rfl, _⟩ := h; rfl) | (obtain ⟨_, _, _, _, rfl, _⟩ := h; rfl) | (obtain ⟨_, _, _, _, _, rfl, _⟩ := h; rfl) | (obtain ⟨_, _, _, _, _, _, rfl, _⟩ := h; rfl) | (obtain ⟨rfl, _⟩ := h; rfl)
  · obtain ⟨a, ls, rfl, hS, hP, hz, q⟩ := h
    refine ⟨_, (pss_cons (ps_set (i := 1) sc_reduce_all.nd rfl (by first | exact Or.inl rfl | exact Or.inr rfl) (pe_lst pa_nil))
      (pss_cons (ps_for PassesOwn.never rfl (pi_anyK (K := K) rfl (pv 0)) (pg_name (i := 2) sc_reduce_all.nd rfl (by first | exact Or.inl rfl | exact Or.inr rfl)) (pss_one (ps_for PassesOwn.never rfl (pi_str (pv 2)) (pg_name (i := 3) sc_reduce_all.nd rfl (by first | exact Or.inl rfl | exact Or.inr rfl)) (pss_one (ps_if (PW.pt (pw_and (pt_cmpR (op_neUK (K := K) rfl hr.units) (pv 1) (pe_lst pa_nil) rfl) (pw_and1 (pt_cmpR (op_eqUK (K := K) rfl hr.units) (pe_ix (ix_seqK (K := K) rfl) (pv 1) (pe_un un_neg pe_int) (fun _ _ => rfl)) (pe_m0 PySem.F.slot_str_swapcase PySem.F.type_str_swapcase mt_swapcase (pv 3)) rfl)))) (pss_one (ps_expr (pe_bm0K (K := K) rfl (pe_bm0 PySem.F.plainAttrs_list PySem.F.slot_list_pop PySem.F.type_list_pop mt_pop (pv 1))))) (pss_one (ps_expr (pe_bmK (K := K) rfl (pe_bm PySem.F.plainAttrs_list PySem.F.slot_list_append PySem.F.type_list_append mt_append (pv 1) (pa_cons (pv 3) pa_nil))))))))))
      (pss_one (ps_ret (pe_m1 PySem.F.slot_str_join PySem.F.type_str_join (mt_joinK (K := K) rfl) pe_str (pv 1)))))), ?_⟩
    dsimp only [L2.cxOf, L2.Cx.nox, L2.Cx.wish, L2.start, List.map, List.length_cons, List.length_nil, Nat.reduceAdd, Nat.reduceSub, List.replicate, List.cons_append, List.nil_append, nm_reduce_all]
    walk_at "hx go"
    refine g_sz (by simp) fun p np => ?_
    walk_at "hx go"
    have flat_take : ∀ i, ((ls.take i).flatten).length ≤ ls.flatten.length := fun i => by
      conv => rhs; rw [← List.take_append_drop i ls, List.flatten_append, List.length_append]
      omega
    have e0 : Same H (upd H p (.lst [])) := s_new (Same.refl H) np
    have oks : ∀ st : List Nat, (∀ c ∈ st, c ∈ stepC) → SeqAt.shaped (.list ((st.reverse.map sg).map .str)) = true := fun st h =>
      Emb.str.list.shaped _ fun z hz => by
        obtain ⟨c, hc, rfl⟩ := List.mem_map.mp hz
        exact step_ok (.one (h c (List.mem_reverse.mp hc)))
    refine g_anySq (fun Q q => g_var rfl q) hS e0 fun J G w hG => ?_
    refine for_it w (fun i σ H2 => (∃ v2 v3, σ = [some (.ref a), some (.ref p), v2, v3]) ∧ Same H H2 ∧ H2 p = some (.lst (stk (runP [] (ls.take i).flatten)))) ⟨⟨_, _, rfl⟩, e0, upd_same⟩ (fun _ _ _ _ h => hG _ h.2.1) ?_ ?_
    · rintro i x σ H2 H3 hi ⟨⟨v2, v3, rfl⟩, e2, hp2⟩ ⟨rfl, ex⟩
      rw [List.getElem?_map] at ex
      cases el : ls[i]? with
      | none => rw [el] at ex; cases ex
      | some l =>
        rw [el] at ex
        cases ex
        have hl : IsP l := hP l (List.mem_of_getElem? el)
        have et : (ls.take (i + 1)).flatten = (ls.take i).flatten ++ l := by rw [List.take_succ, el]; simp
        have ez : ((ls.take i).flatten ++ l).length ≤ ls.flatten.length := by rw [← et]; exact flat_take _
        have hT : IsP (ls.take i).flatten := fun c hc => by
          obtain ⟨m, hm, hc⟩ := List.mem_flatten.mp hc
          exact hP m (List.mem_of_mem_take hm) c hc
        rw [et]
        generalize (ls.take i).flatten = m at *
        rw [List.length_append] at ez
        walk_at "hx go"
        refine for_it walk_str (fun j σ H4 => (∃ v3, σ = [some (.ref a), some (.ref p), some (.str (S l)), v3]) ∧ Same H H4 ∧ H4 p = some (.lst (stk (runP [] (m ++ l.take j))))) ⟨⟨_, rfl⟩, e2, by rw [List.take_zero, List.append_nil]; exact hp2⟩ (fun _ _ _ _ _ => trivial) ?_ ?_
        · rintro j x σ H4 H5 hj ⟨⟨v3, rfl⟩, e4, hp4⟩ ⟨rfl, c, ec, rfl⟩
          have ec2 : l[j]? = some c := by rw [← S_cps l, Array.getElem?_toList]; exact ec
          have hc : c ∈ stepC := hl c (List.mem_of_getElem? ec2)
          have et2 : m ++ l.take (j + 1) = (m ++ l.take j) ++ [c] := by rw [List.take_succ, ec2]; simp
          have hst : IsP (runP [] (m ++ l.take j)) := IsP.run fun d hd => (List.mem_append.mp hd).elim (hT d) fun h => hl d (List.mem_of_mem_take h)
          have hlen : (runP [] (m ++ l.take j)).length ≤ 1000000 := by
            have h1 := runP_len [] (m ++ l.take j)
            rw [List.length_append, List.length_take, List.length_nil] at h1
            omega
          rw [et2, runP_app]
          generalize runP [] (m ++ l.take j) = st at *
          have sC : Txt.swapcase ⟨#[c]⟩ = S [sw c] := swap_S (IsP.one hc)
          walk_at "hx go"
          refine g_sz (by simp) fun p1 np1 => ?_
          walk_at "hx go"
          have hp5 := u_old (u := .lst []) np1 hp4
          have e5 : Same H (upd H5 p1 (.lst [])) := s_new e4 np1
          refine g_neD (stk_data hp5) (.lst (sq_of upd_same) .nil) (oks st hst) (oks [] (fun _ h => by cases h)) ?_
          rw [eqv_nil Emb.str]
          walk_at "hx go"
          generalize upd H5 p1 (.lst []) = H6 at *
          cases st with
          | nil =>
            refine g_byN (fun h => absurd rfl h) fun _ => ?_
            walk_at "hx go"
            refine ⟨Or.inl ⟨rfl, _, sq_of hp5⟩, ?_⟩
            walk_at "hx go"
            refine g_append hp5 (by rw [stk_len]; simp) ?_
            exact ⟨⟨_, rfl⟩, s_mut e5 np, by rw [upd_same]; rfl⟩
          | cons x r =>
            refine g_byN (fun _ => ?_) fun h => by simp at h
            walk_at "hx go"
            refine g_ixL (sq_of hp5) (by rw [stk_cons]; exact atI_last _ _) ?_
            walk_at "hx go"
            refine ⟨rfl, by show 1 ≤ 5592405; decide, ?_⟩
            rw [sC]
            walk_at "hx go"
            by_cases exc : x = sw c
            · refine g_yesD (by rw [exc]) ?_
              walk_at "hx go"
              refine ⟨Or.inl ⟨rfl, _, sq_of hp5⟩, ?_⟩
              rw [stk_cons] at hp5
              refine g_pop hp5 ?_
              refine ⟨⟨_, rfl⟩, s_mut e5 np, ?_⟩
              rw [upd_same]
              show _ = some (HO.lst (stk (push (x :: r) c)))
              rw [push_cons, if_pos exc]
            · refine g_noD (fun h => exc (by have := S_inj h; simpa using this)) ?_
              walk_at "hx go"
              refine ⟨Or.inl ⟨rfl, _, sq_of hp5⟩, ?_⟩
              walk_at "hx go"
              refine g_append hp5 (by rw [stk_len]; omega) ?_
              refine ⟨⟨_, rfl⟩, s_mut e5 np, ?_⟩
              rw [upd_same]
              show _ = some (HO.lst (stk (push (x :: r) c)))
              rw [push_cons, if_neg exc, stk_cons c]
              rfl
        · rintro σ H4 ⟨⟨v3, rfl⟩, e4, hp4⟩
          rw [List.take_of_length_le (by show l.length ≤ (S l).length; rw [S_len]; exact Nat.le_refl _)] at hp4
          exact ⟨⟨_, _, rfl⟩, e4, hp4⟩
    · rintro σ H2 ⟨⟨v2, v3, rfl⟩, e2, hp2⟩
      rw [List.length_map, List.take_of_length_le (Nat.le_refl _)] at hp2
      walk_at "hx go"
      refine g_joinK (l := ((runP [] ls.flatten).reverse.map sg)) (sq_of hp2) ?_ ?_
      · have h1 : (((runP [] ls.flatten).reverse.map sg).map (·.length)).sum = (runP [] ls.flatten).reverse.length := by
          generalize (runP [] ls.flatten).reverse = l
          induction l with
          | nil => rfl
          | cons c r ih => rw [List.map_cons, List.map_cons, List.sum_cons, ih]; simp [sg, S_len]; omega
        have h2 := runP_len [] ls.flatten
        rw [h1, show (Str.ofString "").length = 0 from by decide +kernel, List.length_reverse]
        simp only [List.length_map, List.length_reverse, List.length_nil] at h2 ⊢
        omega
      · rw [join_sg]
        exact q H2 e2

theorem sc_is_path : FnScope ["value", "step"] ["value"] (defScope s_is_path) := ⟨rfl, rfl, rfl, by decide +kernel, rfl, by decide +kernel, by decide +kernel⟩
def nm_is_path : List Str := ["value", "step"]
def sp_is_path (K : PySem.W.Frag) : Sp := fun vs H Q _ => ∃ (x : V), vs = [x] ∧
  ((∃ z, x = .str z ∧ z.length ≤ 100000 ∧ ∀ H', Same H H' → Q (.bl (isP z)) H') ∨ (∃ t, TyX K H x t ∧ PySem.W.kitOne K t (.type "str") = some false ∧ Q (.bl false) H))
theorem ok_is_path (T : Txt K mg A) : FnG P w K mg base CX0 1 A.a_is_path A.d_is_path ["value"] (sp_is_path K) := by
  refine fn0 T.f_is_path sc_is_path (fun vs H Q E h => ?_) (fun cdv A_ outer s H vs Q E hr h => ?_)
  · first | (obtain ⟨_, rfl, _⟩ := h; rfl) | (obtain ⟨_, _, rfl, _⟩ := h; rfl) | (obtain ⟨_, _, _, rfl, _⟩ := h; rfl) | (obtain ⟨_, _, _, _, rfl, _⟩ := h; rfl) | (obtain ⟨_, _, _, _, _, rfl, _⟩ := h; rfl) | (obtain ⟨_, _, _, _, _, _, rfl, _⟩ := h; rfl) | (obtain ⟨rfl, _⟩ := h; rfl)
  · obtain ⟨x, rfl, h⟩ := h
    refine ⟨_, (pss_one (ps_ret (pe_and (pe_callB (call_isiUK (K := K) rfl) (by rfl) T.z_isinstance PyProof.Rows.boot_isinstance (pa_cons (pv 0) (pa_cons (pe_bltn (v := .ty "str") (by rfl) T.z_str (by decide +kernel) rfl) pa_nil))) (pe_and (pe_cmpR op_le (pe_callB (call_lenUK (K := K) rfl) (by rfl) T.z_len PySem.boot_len (pa_cons (pv 0) pa_nil)) (pe_gI T.c_MAX_STEPS) rfl) (pe_one (pe_callB (call_allK (K := K) rfl rfl) (by rfl) T.z_all PyProof.Rows.boot_all (pa_cons (pe_lc (own := [("step", 1)]) (g := (gName 1)) (tt := tYes) rfl sc_is_path.nd (pi_str (pv 0)) (blkOk_by (N := nm_is_path) (sc := defScope s_is_path) (by decide +kernel)) (fun _ _ _ _ _ => (pg_name (i := 1) sc_is_path.nd rfl (by first | exact Or.inl rfl | exact Or.inr rfl))) (fun _ _ _ _ _ => pts_nil) (fun _ _ _ _ _ => (pe_cmpR op_in_sign (pv 1) (pe_gS T.c_STEPS) rfl))) pa_nil))))))), ?_⟩
    dsimp only [L2.cxOf, L2.Cx.nox, L2.Cx.wish, L2.start, List.map, List.length_cons, List.length_nil, Nat.reduceAdd, Nat.reduceSub, List.replicate, List.cons_append, List.nil_append, nm_is_path]
    walk_at "hx go"
    rcases h with ⟨z, rfl, hz, q⟩ | ⟨t, ht, ek, q⟩
    · refine g_isi (.ty _) (.base (.str z)) (kit_ty (r := true) (by decide +kernel)) ?_
      walk_at "hx go"
      refine g_lenS (Nat.le_trans hz (by decide)) ?_
      walk_at "hx go"
      refine g_byD (fun h4 => ?_) (fun h4 => ?_)
      · walk_at "hx go"
        intro D nD
        refine lc_it walk_str (fun i H2 => Same H H2 ∧ H2 D = some (.lst (((z.cps.toList.take i).map fun c => decide (c ∈ stepC)).map V.bl))) ?_ ?_ ?_ ?_
        · exact ⟨s_new (Same.refl H) nD, by rw [upd_same]; rfl⟩
        · intro i H2 _ _; trivial
        · rintro i x H2 H3 hi ⟨e2, hD⟩ ⟨rfl, c, ec, rfl⟩
          walk_at "hx go"
          refine ⟨rfl, ?_⟩
          walk_at "hx go"
          refine ⟨c, _, rfl, rfl, ?_⟩
          refine ⟨_, hD, ?_, s_mut e2 nD, ?_⟩
          · rw [List.length_map, List.length_map, List.length_take, sizeLine_eq]
            have : z.cps.toList.length ≤ 100000 := by rw [Array.length_toList]; exact hz
            omega
          · rw [upd_same, List.take_succ, show z.cps.toList[i]? = some c by rw [Array.getElem?_toList]; exact ec, stepsS, S_cps]
            simp
        · rintro H2 ⟨e2, hD⟩
          rw [List.take_of_length_le (by rw [Array.length_toList]; exact Nat.le_refl _)] at hD
          walk_at "hx go"
          refine g_all (sq_of hD) ?_
          have q1 := q H2 e2
          unfold isP at q1
          rw [decide_eq_true h4, Bool.true_and] at q1
          rw [List.all_map]
          exact q1
      · walk_at "hx go"
        have q1 := q H (Same.refl H)
        unfold isP at q1
        rw [decide_eq_false h4, Bool.false_and] at q1
        exact q1
    · refine g_isi (.ty _) ht ek ?_
      walk_at "hx go"
      exact q

theorem sc_InvalidPath___init__ : FnScope ["self", "value"] ["self", "value"] (defScope s_InvalidPath___init__) := ⟨rfl, rfl, rfl, by decide +kernel, rfl, by decide +kernel, by decide +kernel⟩
def nm_InvalidPath___init__ : List Str := ["self", "value"]
def sp_InvalidPath___init__ (_ : PySem.W.Frag) (A : Ad) : Sp := sp_in1 A.k_InvalidPath "value"
theorem ok_InvalidPath___init__ (T : Txt K mg A) : FnG P w K mg base CX0 1 A.a_InvalidPath___init__ A.d_InvalidPath___init__ ["self", "value"] (sp_InvalidPath___init__ K A) := by
  refine fn0 T.f_InvalidPath___init__ sc_InvalidPath___init__ (fun vs H Q E h => ?_) (fun cdv A_ outer s H vs Q E hr h => ?_)
  · first | (obtain ⟨_, rfl, _⟩ := h; rfl) | (obtain ⟨_, _, rfl, _⟩ := h; rfl) | (obtain ⟨_, _, _, rfl, _⟩ := h; rfl) | (obtain ⟨_, _, _, _, rfl, _⟩ := h; rfl) | (obtain ⟨_, _, _, _, _, rfl, _⟩ := h; rfl) | (obtain ⟨_, _, _, _, _, _, rfl, _⟩ := h; rfl) | (obtain ⟨rfl, _⟩ := h; rfl)
  · obtain ⟨a, v, rfl, ha, q⟩ := h
    refine ⟨_, (pss_cons (ps_expr (pe_iniC ebV_ok (by decide +kernel) (by rfl) T.g_PathError T.s_PathError T.r_PathError T.v_PathError (pa_cons (pv 0) (pa_cons pe_str pa_nil)))) (pss_one (ps_fld ebV_ok (pv 0) (pv 1)))), ?_⟩
    dsimp only [L2.cxOf, L2.Cx.nox, L2.Cx.wish, L2.start, List.map, List.length_cons, List.length_nil, Nat.reduceAdd, Nat.reduceSub, List.replicate, List.cons_append, List.nil_append, nm_InvalidPath___init__]
    walk_at "hx go"
    refine ⟨a, A.k_InvalidPath, [_], rfl, by decide, T.x_InvalidPath, ha, ?_⟩
    walk_at "hx go"
    exact ⟨a, A.k_InvalidPath, rfl, T.x_InvalidPath, taker_of T.n_InvalidPath_value, Or.inl ⟨ha, fun dx nd ne => q dx nd ne⟩⟩

theorem sc_require_path : FnScope ["value"] ["value"] (defScope s_require_path) := ⟨rfl, rfl, rfl, by decide +kernel, rfl, by decide +kernel, by decide +kernel⟩
def nm_require_path : List Str := ["value"]
def sp_require_path (K : PySem.W.Frag) (A : Ad) : Sp := fun vs H Q E => ∃ (x : V), vs = [x] ∧
  ((∃ l, x = .str (S l) ∧ IsP l ∧ l.length ≤ 400 ∧ ∀ H', Same H H' → Q .non H') ∨ (NotP K H x ∧ Err1 A.k_InvalidPath "value" E H x))
theorem ok_require_path (T : Txt K mg A) : FnG P w K mg base (L2.CX P w) 3 A.a_require_path A.d_require_path ["value"] (sp_require_path K A) := by
  refine fnX T.f_require_path sc_require_path (fun vs H Q E h => ?_) (fun cdv A_ outer s H vs Q E hr h => ?_)
  · first | (obtain ⟨_, rfl, _⟩ := h; rfl) | (obtain ⟨_, _, rfl, _⟩ := h; rfl) | (obtain ⟨_, _, _, rfl, _⟩ := h; rfl) | (obtain ⟨_, _, _, _, rfl, _⟩ := h; rfl) | (obtain ⟨_, _, _, _, _, rfl, _⟩ := h; rfl) | (obtain ⟨_, _, _, _, _, _, rfl, _⟩ := h; rfl) | (obtain ⟨rfl, _⟩ := h; rfl)
  · obtain ⟨x, rfl, h⟩ := h
    refine ⟨_, (pss_one (ps_if (pt_not (pt_val (pc_pos (ok_is_path T) (hr.mono (by decide)) (by rfl) T.g_is_path T.f_is_path.kp T.b_is_path pass0 (pa_cons (pv 0) pa_nil)))) (pss_one (ps_raise rfl (takes_of rfl rfl rfl rfl) (pmk_x ebV_ok T.x_InvalidPath T.i_InvalidPath T.t_InvalidPath (ok_InvalidPath___init__ T) (hr.mono (by decide)) T.b_InvalidPath___init__ pass0 (by rfl) T.g_InvalidPath (pa_cons (pv 0) pa_nil)))) pss_nil)), ?_⟩
    dsimp only [L2.cxOf, L2.Cx.nox, L2.Cx.wish, L2.start, List.map, List.length_cons, List.length_nil, Nat.reduceAdd, Nat.reduceSub, List.replicate, List.cons_append, List.nil_append, nm_require_path]
    walk_at "hx go"
    rcases h with ⟨l, rfl, hl, hz, q⟩ | ⟨⟨z, rfl, hz, hb⟩ | ⟨t, ht, ek⟩, q⟩
    · refine ⟨_, rfl, .inl ⟨S l, rfl, by rw [S_len]; omega, fun H1 e1 => ?_⟩⟩
      rw [isP_S hl hz]
      walk_at "hx go"
      exact q H1 e1
    · refine ⟨_, rfl, .inl ⟨z, rfl, hz, fun H1 e1 => ?_⟩⟩
      rw [hb]
      walk_at "hx go"
      exact g_mk1 (q H1 e1)
    · refine ⟨_, rfl, .inr ⟨t, ht, ek, ?_⟩⟩
      walk_at "hx go"
      exact g_mk1 (q H (Same.refl H))

theorem sc_reduced : FnScope ["path"] ["path"] (defScope s_reduced) := ⟨rfl, rfl, rfl, by decide +kernel, rfl, by decide +kernel, by decide +kernel⟩
def nm_reduced : List Str := ["path"]
def sp_reduced (K : PySem.W.Frag) (A : Ad) : Sp := fun vs H Q E => ∃ (x : V), vs = [x] ∧
  ((∃ l, x = .str (S l) ∧ IsP l ∧ l.length ≤ 400 ∧ ∀ H', Same H H' → Q (.str (S (red l))) H') ∨ (NotP K H x ∧ Err1 A.k_InvalidPath "value" E H x))
theorem ok_reduced (T : Txt K mg A) : FnG P w K mg base (L2.CX P w) 4 A.a_reduced A.d_reduced ["path"] (sp_reduced K A) := by
  refine fnX T.f_reduced sc_reduced (fun vs H Q E h => ?_) (fun cdv A_ outer s H vs Q E hr h => ?_)
  · first | (obtain ⟨_, rfl, _⟩ := h; rfl) | (obtain ⟨_, _, rfl, _⟩ := h; rfl) | (obtain ⟨_, _, _, rfl, _⟩ := h; rfl) | (obtain ⟨_, _, _, _, rfl, _⟩ := h; rfl) | (obtain ⟨_, _, _, _, _, rfl, _⟩ := h; rfl) | (obtain ⟨_, _, _, _, _, _, rfl, _⟩ := h; rfl) | (obtain ⟨rfl, _⟩ := h; rfl)
  · obtain ⟨x, rfl, h⟩ := h
    refine ⟨_, (pss_cons (ps_expr (pc_pos (ok_require_path T) (hr.mono (by decide)) (by rfl) T.g_require_path T.f_require_path.kp T.b_require_path (passes_call (takes_of rfl rfl rfl rfl) (fun _ _ _ _ h => h)) (pa_cons (pv 0) pa_nil)))
      (pss_one (ps_ret (pc_pos (ok_reduce_all T) (hr.mono (by decide)) (by rfl) T.g_reduce_all T.f_reduce_all.kp T.b_reduce_all pass0 (pa_cons (pe_lst (pa_cons (pv 0) pa_nil)) pa_nil))))), ?_⟩
    dsimp only [L2.cxOf, L2.Cx.nox, L2.Cx.wish, L2.start, List.map, List.length_cons, List.length_nil, Nat.reduceAdd, Nat.reduceSub, List.replicate, List.cons_append, List.nil_append, nm_reduced]
    walk_at "hx go"
    rcases h with ⟨l, rfl, hl, hz, q⟩ | ⟨hb, q⟩
    · refine ⟨_, rfl, .inl ⟨l, rfl, hl, hz, fun H1 e1 => ?_⟩⟩
      walk_at "hx go"
      refine g_sz (by simp) fun p np => ?_
      walk_at "hx go"
      refine ⟨p, [l], rfl, .inl (sq_of upd_same), fun m hm => by rw [List.mem_singleton] at hm; rw [hm]; exact hl, by simp; omega, fun H2 e2 => ?_⟩
      have : [l].flatten = l := by simp
      rw [this]
      exact q H2 ((s_new e1 np).trans e2)
    · exact ⟨_, rfl, .inr ⟨hb, q⟩⟩

theorem sc_cyclic_parts : FnScope ["path"] ["path"] (defScope s_cyclic_parts) := ⟨rfl, rfl, rfl, by decide +kernel, rfl, by decide +kernel, by decide +kernel⟩
def nm_cyclic_parts : List Str := ["path"]
def sp_cyclic_parts (K : PySem.W.Frag) (A : Ad) : Sp := fun vs H Q E => ∃ (x : V), vs = [x] ∧
  ((∃ l, x = .str (S l) ∧ IsP l ∧ l.length ≤ 400 ∧ ∀ u c p G H', red l = u ++ c ++ inv u → Cyc c → Same H G → G p = none → H' = upd G p (.tup [.str (S u), .str (S c)]) → Q (.ref p) H') ∨ (NotP K H x ∧ Err1 A.k_InvalidPath "value" E H x))
theorem ok_cyclic_parts (T : Txt K mg A) : FnG P w K mg base (L2.CX P w) 5 A.a_cyclic_parts A.d_cyclic_parts ["path"] (sp_cyclic_parts K A) := by
  refine fnX T.f_cyclic_parts sc_cyclic_parts (fun vs H Q E h => ?_) (fun cdv A_ outer s H vs Q E hr h => ?_)
  · first | (obtain ⟨_, rfl, _⟩ := h; rfl) | (obtain ⟨_, _, rfl, _⟩ := h; rfl) | (obtain ⟨_, _, _, rfl, _⟩ := h; rfl) | (obtain ⟨_, _, _, _, rfl, _⟩ := h; rfl) | (obtain ⟨_, _, _, _, _, rfl, _⟩ := h; rfl) | (obtain ⟨_, _, _, _, _, _, rfl, _⟩ := h; rfl) | (obtain ⟨rfl, _⟩ := h; rfl)
  · obtain ⟨x, rfl, h⟩ := h
    refine ⟨_, (pss_one (ps_ret (pc_pos (ok_split_core T) (hr.mono (by decide)) (by rfl) T.g_split_core T.f_split_core.kp T.b_split_core pass0 (pa_cons (pc_pos (ok_reduced T) (hr.mono (by decide)) (by rfl) T.g_reduced T.f_reduced.kp T.b_reduced (passes_call (takes_of rfl rfl rfl rfl) (fun _ _ _ _ h => h)) (pa_cons (pv 0) pa_nil)) pa_nil)))), ?_⟩
    dsimp only [L2.cxOf, L2.Cx.nox, L2.Cx.wish, L2.start, List.map, List.length_cons, List.length_nil, Nat.reduceAdd, Nat.reduceSub, List.replicate, List.cons_append, List.nil_append, nm_cyclic_parts]
    walk_at "hx go"
    rcases h with ⟨l, rfl, hl, hz, q⟩ | ⟨hb, q⟩
    · refine ⟨_, rfl, .inl ⟨l, rfl, hl, hz, fun H1 e1 => ?_⟩⟩
      walk_at "hx go"
      refine ⟨red l, rfl, hl.red, Nat.le_trans (red_len l) hz, fun u c p H' e cy np eH => ?_⟩
      exact q u c p H1 H' e cy e1 np eH
    · exact ⟨_, rfl, .inr ⟨hb, q⟩⟩

theorem sc_power : FnScope ["path", "exponent", "prefix", "core"] ["path", "exponent"] (defScope s_power) := ⟨rfl, rfl, rfl, by decide +kernel, rfl, by decide +kernel, by decide +kernel⟩
def nm_power : List Str := ["path", "exponent", "prefix", "core"]
def sp_power (K : PySem.W.Frag) (A : Ad) : Sp := fun vs H Q E => ∃ (x e : V), vs = [x, e] ∧
  ((NotP K H x ∧ Err1 A.k_InvalidPath "value" E H x) ∨ ∃ l, x = .str (S l) ∧ IsP l ∧ l.length ≤ 400 ∧ ((NotI K H e ∧ Err1 A.k_InvalidNumber "value" E H e) ∨
    ∃ n : Int, e = .int n ∧ ∀ u c, red l = u ++ c ++ inv u → Cyc c → (powBig u c n → Err1 A.k_LimitExceeded "limit" E H (.int 400)) ∧ (¬powBig u c n → ∀ H', Same H H' → Q (.str (S (powOut u c n))) H')))
theorem ok_power (T : Txt K mg A) : FnG P w K mg base (L2.CX P w) 6 A.a_power A.d_power ["path", "exponent"] (sp_power K A) := by
  refine fnX T.f_power sc_power (fun vs H Q E h => ?_) (fun cdv A_ outer s H vs Q E hr h => ?_)
  · first | (obtain ⟨_, rfl, _⟩ := h; rfl) | (obtain ⟨_, _, rfl, _⟩ := h; rfl) | (obtain ⟨_, _, _, rfl, _⟩ := h; rfl) | (obtain ⟨_, _, _, _, rfl, _⟩ := h; rfl) | (obtain ⟨_, _, _, _, _, rfl, _⟩ := h; rfl) | (obtain ⟨_, _, _, _, _, _, rfl, _⟩ := h; rfl) | (obtain ⟨rfl, _⟩ := h; rfl)
  · obtain ⟨x, e, rfl, h⟩ := h
    refine ⟨_, (pss_cons (ps_asg (pc_pos (ok_cyclic_parts T) (hr.mono (by decide)) (by rfl) T.g_cyclic_parts T.f_cyclic_parts.kp T.b_cyclic_parts (passes_call (takes_of rfl rfl rfl rfl) (fun _ _ _ _ h => h)) (pa_cons (pv 0) pa_nil)) (pg_tupK (K := K) rfl rfl (pgs_cons (pg_name (i := 2) sc_power.nd rfl (by first | exact Or.inl rfl | exact Or.inr rfl)) (pgs_cons (pg_name (i := 3) sc_power.nd rfl (by first | exact Or.inl rfl | exact Or.inr rfl)) pgs_nil))))
      (pss_cons (ps_if (pt_not (pt_val (pc_pos (ok_is_integer T) (hr.mono (by decide)) (by rfl) T.g_is_integer T.f_is_integer.kp T.b_is_integer pass0 (pa_cons (pv 1) pa_nil)))) (pss_one (ps_raise rfl (takes_of rfl rfl rfl rfl) (pmk_x ebV_ok T.x_InvalidNumber T.i_InvalidNumber T.t_InvalidNumber (ok_InvalidNumber___init__ T) (hr.mono (by decide)) T.b_InvalidNumber___init__ pass0 (by rfl) T.g_InvalidNumber (pa_cons (pv 1) pa_nil)))) pss_nil)
      (pss_cons (ps_if (pt_cmpR (op_ltUK (K := K) rfl hr.units) (pv 1) pe_int rfl) (pss_one (ps_par (i := 3) (j := 1) rfl sc_power.nd rfl rfl (by decide) rfl rfl (pa_cons (pc_pos (ok_inverted T) (hr.mono (by decide)) (by rfl) T.g_inverted T.f_inverted.kp T.b_inverted pass0 (pa_cons (pv 3) pa_nil)) (pa_cons (pe_op op_sub pe_int (pv 1)) pa_nil)) rfl)) pss_nil)
      (pss_cons (ps_if (PW.pt (pw_or (pt_cmpR (op_eqUK (K := K) rfl hr.units) (pv 3) pe_str rfl) (pw_or1 (pt_cmpR (op_eqUK (K := K) rfl hr.units) (pv 1) pe_int rfl)))) (pss_one (ps_ret pe_str)) pss_nil)
      (pss_cons (ps_if (pt_cmpR op_gt (pe_op op_addU (pe_op op_mulU pe_int (pe_callB (call_lenUK (K := K) rfl) (by rfl) T.z_len PySem.boot_len (pa_cons (pv 2) pa_nil))) (pe_op op_mulU (pe_callB (call_lenUK (K := K) rfl) (by rfl) T.z_len PySem.boot_len (pa_cons (pv 3) pa_nil)) (pv 1))) (pe_gI T.c_MAX_STEPS) rfl) (pss_one (ps_raise rfl (takes_of rfl rfl rfl rfl) (pmk_x ebO_ok T.x_LimitExceeded T.i_LimitExceeded T.t_LimitExceeded (ok_LimitExceeded___init__ T) (hr.mono (by decide)) T.b_LimitExceeded___init__ pass0 (by rfl) T.g_LimitExceeded (pa_cons (pe_gI T.c_MAX_STEPS) pa_nil)))) pss_nil)
      (pss_one (ps_ret (pe_op op_addU (pe_op op_addU (pv 2) (pe_op op_mulU (pv 3) (pv 1))) (pc_pos (ok_inverted T) (hr.mono (by decide)) (by rfl) T.g_inverted T.f_inverted.kp T.b_inverted pass0 (pa_cons (pv 2) pa_nil)))))))))), ?_⟩
    dsimp only [L2.cxOf, L2.Cx.nox, L2.Cx.wish, L2.start, List.map, List.length_cons, List.length_nil, Nat.reduceAdd, Nat.reduceSub, List.replicate, List.cons_append, List.nil_append, nm_power]
    walk_at "hx go"
    rcases h with ⟨hb, q⟩ | ⟨l, rfl, hl, hz, q⟩
    · exact ⟨_, rfl, .inr ⟨hb, q⟩⟩
    refine ⟨_, rfl, .inl ⟨l, rfl, hl, hz, fun u c p G H' hu cy e1 np eH => ?_⟩⟩
    subst eH
    have e2 : Same H (upd G p (.tup [.str (S u), .str (S c)])) := s_new e1 np
    have lr := red_len l
    have pr := hl.red
    have lu := congrArg List.length hu
    rw [List.length_append, List.length_append, inv_len] at lu
    have pu : IsP u := fun a ha => pr a (by rw [hu]; simp [ha])
    have pc : IsP c := fun a ha => pr a (by rw [hu]; simp [ha])
    refine g_gtup (st_of upd_same) rfl ?_
    walk_at "hx go"
    rcases q with ⟨hb, q⟩ | ⟨n, rfl, q⟩
    · obtain ⟨t, ht, hk⟩ := hb.at e2
      rcases hk with k1 | ⟨k1, k2⟩
      · refine ⟨_, t, false, false, false, rfl, ht, k1, (fun z => nomatch z), rfl, ?_⟩
        walk_at "hx go"
        exact g_mk1 (q _ e2)
      · refine ⟨_, t, true, true, false, rfl, ht, k1, (fun _ => k2), rfl, ?_⟩
        walk_at "hx go"
        exact g_mk1 (q _ e2)
    obtain ⟨q1, q2⟩ := q u c hu cy
    refine ⟨_, _, true, false, true, rfl, .base (.int n), int_is, (fun _ => int_nob), rfl, ?_⟩
    walk_at "hx go"
    have k0 : ∃ k : Nat, n.natAbs = k := ⟨_, rfl⟩
    obtain ⟨k, hk⟩ := k0
    have out0 : (c = [] ∨ n = 0) → Q (.str (Str.ofString "")) (upd G p (.tup [.str (S u), .str (S c)])) := fun h => by
      have z := q2 (fun hb => hb.1 h) _ e2
      unfold powOut at z
      rw [if_pos h] at z
      rw [S_nil]; exact z
    refine g_byD (fun hn => ?_) (fun hn => ?_)
    · walk_at "hx go"
      refine ⟨c, rfl, pc, by omega, ?_⟩
      walk_at "hx go"
      obtain ⟨c', hcc, f1, f2, f3⟩ : ∃ c', inv c = c' ∧ c'.length = c.length ∧ IsP c' ∧ (¬(c = [] ∨ n = 0) → powOut u c n = u ++ pw c' k ++ inv u) :=
        ⟨_, rfl, inv_len c, pc.inv, fun h => by unfold powOut; rw [if_neg h, if_pos hn, hk]⟩
      rw [hcc, show 0 - n = (k : Int) by omega]
      clear hcc
      generalize hP : upd G p (.tup [.str (S u), .str (S c)]) = P1 at *
      walk_at "hx go"
      refine g_byD (fun h0 => ?_) (fun h0 => ?_)
      · walk_at "hx go"
        rw [S_nil] at h0
        have e0 : c' = [] := S_inj h0
        exact out0 (.inl (List.length_eq_zero_iff.mp (by rw [← f1, e0]; rfl)))
      · walk_at "hx go"
        refine g_byD (fun h1 => ?_) (fun h1 => ?_)
        · walk_at "hx go"
          exact out0 (.inr (by omega))
        · walk_at "hx go"
          have nz : ¬(c = [] ∨ n = 0) := fun h => by
            rcases h with h | h
            · refine h0 ?_
              rw [S_nil, List.length_eq_zero_iff.mp (show c'.length = 0 by rw [f1, h]; rfl)]
            · exact h1 (by omega)
          have cp : 0 < c'.length := by
            rw [f1]; exact List.length_pos_iff.mpr fun h => nz (.inl h)
          refine g_lenS (by rw [S_len, sizeLine_eq]; omega) ?_
          rw [S_len]
          walk_at "hx go"
          refine g_mulI (.inl ⟨(by decide : -(2 ^ 64) < (2 : Int)), by decide⟩) ?_
          walk_at "hx go"
          refine g_lenS (by rw [S_len, sizeLine_eq]; omega) ?_
          rw [S_len]
          walk_at "hx go"
          refine g_mulI (.inl ⟨by omega, by omega⟩) ?_
          walk_at "hx go"
          have big : powBig u c n ↔ (400 : Int) < 2 * (u.length : Int) + (c'.length : Int) * (k : Int) := by
            unfold powBig; rw [f1, hk]; exact ⟨fun h => h.2, fun h => ⟨nz, h⟩⟩
          refine g_byD (fun h2 => ?_) (fun h2 => ?_)
          · walk_at "hx go"
            exact g_mk1 (q1 (big.mpr h2) _ e2)
          · have k400 : c'.length * k ≤ 400 := by
              have : ((c'.length * k : Nat) : Int) ≤ 400 := by rw [Int.natCast_mul]; omega
              omega
            have kk : k ≤ 400 := Nat.le_trans (Nat.le_mul_of_pos_left k cp) k400
            walk_at "hx go"
            refine g_mulS (by omega) (by rw [S_len]; omega) (by rw [S_len]; omega) ?_
            rw [mulS_S]
            walk_at "hx go"
            have pl : (pw c' k).length ≤ 400 := by rw [pw_len, Nat.mul_comm]; exact k400
            refine g_addS (by rw [S_len, S_len, sizeLine_eq]; omega) ?_
            rw [S_app]
            walk_at "hx go"
            refine ⟨u, rfl, pu, by omega, ?_⟩
            walk_at "hx go"
            refine g_addS (by rw [S_len, S_len, List.length_append, inv_len, sizeLine_eq]; omega) ?_
            rw [S_app]
            have z := q2 (fun hb => h2 (big.mp hb)) _ e2
            rw [f3 nz] at z
            exact z
    · walk_at "hx go"
      obtain ⟨c', hcc, f1, f2, f3⟩ : ∃ c', c = c' ∧ c'.length = c.length ∧ IsP c' ∧ (¬(c = [] ∨ n = 0) → powOut u c n = u ++ pw c' k ++ inv u) :=
        ⟨c, rfl, rfl, pc, fun h => by unfold powOut; rw [if_neg h, if_neg hn, hk]⟩
      generalize hP : upd G p (.tup [.str (S u), .str (S c)]) = P1 at *
      rw [hcc, show n = (k : Int) by omega]
      clear hcc
      walk_at "hx go"
      refine g_byD (fun h0 => ?_) (fun h0 => ?_)
      · walk_at "hx go"
        rw [S_nil] at h0
        have e0 : c' = [] := S_inj h0
        exact out0 (.inl (List.length_eq_zero_iff.mp (by rw [← f1, e0]; rfl)))
      · walk_at "hx go"
        refine g_byD (fun h1 => ?_) (fun h1 => ?_)
        · walk_at "hx go"
          exact out0 (.inr (by omega))
        · walk_at "hx go"
          have nz : ¬(c = [] ∨ n = 0) := fun h => by
            rcases h with h | h
            · refine h0 ?_
              rw [S_nil, List.length_eq_zero_iff.mp (show c'.length = 0 by rw [f1, h]; rfl)]
            · exact h1 (by omega)
          have cp : 0 < c'.length := by
            rw [f1]; exact List.length_pos_iff.mpr fun h => nz (.inl h)
          refine g_lenS (by rw [S_len, sizeLine_eq]; omega) ?_
          rw [S_len]
          walk_at "hx go"
          refine g_mulI (.inl ⟨(by decide : -(2 ^ 64) < (2 : Int)), by decide⟩) ?_
          walk_at "hx go"
          refine g_lenS (by rw [S_len, sizeLine_eq]; omega) ?_
          rw [S_len]
          walk_at "hx go"
          refine g_mulI (.inl ⟨by omega, by omega⟩) ?_
          walk_at "hx go"
          have big : powBig u c n ↔ (400 : Int) < 2 * (u.length : Int) + (c'.length : Int) * (k : Int) := by
            unfold powBig; rw [f1, hk]; exact ⟨fun h => h.2, fun h => ⟨nz, h⟩⟩
          refine g_byD (fun h2 => ?_) (fun h2 => ?_)
          · walk_at "hx go"
            exact g_mk1 (q1 (big.mpr h2) _ e2)
          · have k400 : c'.length * k ≤ 400 := by
              have : ((c'.length * k : Nat) : Int) ≤ 400 := by rw [Int.natCast_mul]; omega
              omega
            have kk : k ≤ 400 := Nat.le_trans (Nat.le_mul_of_pos_left k cp) k400
            walk_at "hx go"
            refine g_mulS (by omega) (by rw [S_len]; omega) (by rw [S_len]; omega) ?_
            rw [mulS_S]
            walk_at "hx go"
            have pl : (pw c' k).length ≤ 400 := by rw [pw_len, Nat.mul_comm]; exact k400
            refine g_addS (by rw [S_len, S_len, sizeLine_eq]; omega) ?_
            rw [S_app]
            walk_at "hx go"
            refine ⟨u, rfl, pu, by omega, ?_⟩
            walk_at "hx go"
            refine g_addS (by rw [S_len, S_len, List.length_append, inv_len, sizeLine_eq]; omega) ?_
            rw [S_app]
            have z := q2 (fun hb => h2 (big.mp hb)) _ e2
            rw [f3 nz] at z
            exact z

end
/-- the place of a step -/
def ixC (c : Nat) : Nat := stepC.idxOf c
theorem occ_step : ∀ c ∈ stepC, Builtin.Str.occurrences (Str.ofString "aAbBcCdD") (S [c]) 0 (Str.ofString "aAbBcCdD").length 1 = [ixC c] := by decide +kernel
theorem ixC_lt : ∀ c ∈ stepC, ixC c < 8 := by decide +kernel
/-- the order of lists of ints, the shorter first where one begins the other -/
def lexB : List Int → List Int → Bool
  | [], [] => false
  | [], _ :: _ => true
  | _ :: _, [] => false
  | x :: xs, y :: ys => if x = y then lexB xs ys else decide (x < y)
theorem toks_ints : ∀ (xs ys : List Int), PyProof.Rows.lexLt PyProof.Rows.itemOrd (PySem.W.keyToksAll (xs.map PyData.int)) (PySem.W.keyToksAll (ys.map PyData.int)) = lexB xs ys
  | [], [] => by decide +kernel
  | [], y :: ys => by
    rw [List.map_cons, PySem.W.toks_all_cons, List.map_nil, PySem.W.keyToksAll]
    rw [PyProof.Rows.lex_diff (O := PyProof.Rows.itemOrd) (by decide)]
    rfl
  | x :: xs, [] => by
    rw [List.map_cons, PySem.W.toks_all_cons, List.map_nil, PySem.W.keyToksAll]
    rw [PyProof.Rows.lex_diff (O := PyProof.Rows.itemOrd) (by decide)]
    rfl
  | x :: xs, y :: ys => by
    by_cases e : x = y
    · subst e
      rw [List.map_cons, List.map_cons, PySem.W.dataLt_all_yes (by rfl) (by simp [PyData.eqv]), toks_ints xs ys]
      simp [lexB]
    · rw [List.map_cons, List.map_cons, PySem.W.dataLt_all_no (by rfl) (by simp [PyData.eqv, e]), PySem.W.dataLt_int]
      simp [lexB, e]
theorem lt_pair (a b : Int) (xs ys : List PyData) (hxy : PySem.W.alikeAll xs ys = true) : PySem.W.dataLt (.tuple (.int a :: xs)) (.tuple (.int b :: ys)) = if a = b then PyProof.Rows.lexLt PyProof.Rows.itemOrd (PySem.W.keyToksAll xs) (PySem.W.keyToksAll ys) else decide (a < b) := by
  rw [PySem.W.dataLt_tuple]
  by_cases e : a = b
  · subst e; rw [if_pos rfl, PySem.W.dataLt_all_yes (by rfl) (by simp [PyData.eqv])]
  · rw [if_neg e, PySem.W.dataLt_all_no (by rfl) (by simp [PyData.eqv, e]), PySem.W.dataLt_int]
theorem toks_one (x y : PyData) (h : PySem.W.alike x y = true) (hr : PyData.eqv x y = true → PySem.W.dataLt x y = false) : PyProof.Rows.lexLt PyProof.Rows.itemOrd (PySem.W.keyToksAll [x]) (PySem.W.keyToksAll [y]) = PySem.W.dataLt x y := by
  cases e : PyData.eqv x y with
  | true => rw [PySem.W.dataLt_all_yes h e, hr e]; decide +kernel
  | false => rw [PySem.W.dataLt_all_no h e]
theorem lexB_irr : ∀ xs, lexB xs xs = false
  | [] => rfl
  | x :: xs => by simp [lexB, lexB_irr xs]
theorem eqv_ints : ∀ xs ys : List Int, PyData.eqvAll (xs.map .int) (ys.map .int) = true → xs = ys
  | [], [], _ => rfl
  | [], _ :: _, h => by simp [PyData.eqvAll] at h
  | _ :: _, [], h => by simp [PyData.eqvAll] at h
  | x :: xs, y :: ys, h => by
    rw [List.map_cons, List.map_cons, PySem.W.eqv_all_cons, Bool.and_eq_true] at h
    have h1 : x = y := by simpa [PyData.eqv] using h.1
    rw [h1, eqv_ints xs ys h.2]
theorem alike_ints : ∀ xs ys : List Int, PySem.W.alikeAll (xs.map .int) (ys.map .int) = true
  | [], _ => by simp [PySem.W.alikeAll]
  | _ :: _, [] => by simp [PySem.W.alikeAll]
  | x :: xs, y :: ys => by rw [List.map_cons, List.map_cons, PySem.W.alikeAll, alike_ints xs ys]; rfl
/-- the keys of two paths compared -/
theorem lt_keys (a b : Int) (xs ys : List Int) : PySem.W.dataLt (.tuple [.int a, .list (xs.map .int)]) (.tuple [.int b, .list (ys.map .int)]) = if a = b then lexB xs ys else decide (a < b) := by
  rw [lt_pair a b _ _ (by rw [PySem.W.alikeAll, PySem.W.alike, alike_ints]; simp [PySem.W.alikeAll])]
  by_cases e : a = b
  · rw [if_pos e, if_pos e, toks_one _ _ (by rw [PySem.W.alike]; exact alike_ints xs ys) fun h => ?_, PySem.W.dataLt_list, toks_ints]
    rw [PyData.eqv] at h
    rw [eqv_ints xs ys h, PySem.W.dataLt_list, toks_ints, lexB_irr]
  · rw [if_neg e, if_neg e]
theorem lt_ints2 (a b c d : Int) : PySem.W.dataLt (.tuple [.int a, .int b]) (.tuple [.int c, .int d]) = if a = c then decide (b < d) else decide (a < c) := by
  rw [lt_pair a c _ _ (by rfl)]
  by_cases e : a = c
  · rw [if_pos e, if_pos e, toks_one _ _ (by rfl) fun h => ?_, PySem.W.dataLt_int]
    have h1 : b = d := by simpa [PyData.eqv] using h
    rw [h1, PySem.W.dataLt_int]; simp
  · rw [if_neg e, if_neg e]
/-- the number of a path, base eight -/
def rk (a : Nat) : List Nat → Nat
  | [] => a
  | c :: r => rk (a * 8 + ixC c) r
theorem rk_lt : ∀ (l m : List Nat) (a b : Nat), IsP l → IsP m → l.length = m.length → a < b → rk a l < rk b m
  | [], [], _, _, _, _, _, h => h
  | c :: l, d :: m, a, b, hl, hm, e, h => by
    have h1 := ixC_lt c (hl c (by simp)); have h2 := ixC_lt d (hm d (by simp))
    exact rk_lt l m _ _ (fun x hx => hl x (by simp [hx])) (fun x hx => hm x (by simp [hx])) (by simpa using e) (by omega)
  | [], _ :: _, _, _, _, _, e, _ => by simp at e
  | _ :: _, [], _, _, _, _, e, _ => by simp at e
theorem lex_rk : ∀ (l m : List Nat) (a : Nat), IsP l → IsP m → l.length = m.length → lexB (l.map fun c => (ixC c : Int)) (m.map fun c => (ixC c : Int)) = decide (rk a l < rk a m)
  | [], [], _, _, _, _ => by simp [lexB, rk]
  | c :: l, d :: m, a, hl, hm, e => by
    have hl' : IsP l := fun x hx => hl x (by simp [hx]); have hm' : IsP m := fun x hx => hm x (by simp [hx])
    have e' : l.length = m.length := by simpa using e
    rw [List.map_cons, List.map_cons, lexB]
    by_cases q : ixC c = ixC d
    · rw [if_pos (by omega), lex_rk l m (a * 8 + ixC c) hl' hm' e']; simp [rk, q]
    · rw [if_neg (by omega)]
      by_cases q2 : ixC c < ixC d
      · have := rk_lt l m (a * 8 + ixC c) (a * 8 + ixC d) hl' hm' e' (by omega)
        rw [rk, rk]; exact decide_eq_decide.mpr (by omega)
      · have := rk_lt m l (a * 8 + ixC d) (a * 8 + ixC c) hm' hl' e'.symm (by omega)
        rw [rk, rk]; exact decide_eq_decide.mpr (by omega)
  | [], _ :: _, _, _, _, e => by simp at e
  | _ :: _, [], _, _, _, e => by simp at e
/-- a path comes ahead of another -/
def pre (l m : List Nat) : Bool := if (l.length : Int) = (m.length : Int) then lexB (l.map fun c => (ixC c : Int)) (m.map fun c => (ixC c : Int)) else decide ((l.length : Int) < (m.length : Int))
theorem pre_rk {l m : List Nat} (hl : IsP l) (hm : IsP m) : (if (l.length : Int) = (m.length : Int) then decide ((rk 0 l : Int) < (rk 0 m : Int)) else decide ((l.length : Int) < (m.length : Int))) = pre l m := by
  unfold pre
  by_cases e : (l.length : Int) = (m.length : Int)
  · rw [if_pos e, if_pos e, lex_rk l m 0 hl hm (by omega)]
    exact decide_eq_decide.mpr (by omega)
  · rw [if_neg e, if_neg e]
section
variable {P : Program} {w : World} {K : PySem.W.Frag} {mg : Str → Option Value} {base : Heap} {A : Ad}
theorem sc_sort_key : FnScope ["path", "step"] ["path"] (defScope s_sort_key) := ⟨rfl, rfl, rfl, by decide +kernel, rfl, by decide +kernel, by decide +kernel⟩
def nm_sort_key : List Str := ["path", "step"]
def sp_sort_key (K : PySem.W.Frag) : Sp := fun vs H Q _ => ∃ (l : List Nat), vs = [.str (S l)] ∧ IsP l ∧ l.length ≤ 1000 ∧
  ∀ a b H', Same H H' → H' a = some (.tup [.int (l.length : Nat), .ref b]) → H' b = some (.lst ((l.map fun c => (ixC c : Int)).map V.int)) → Q (.ref a) H'
theorem ok_sort_key (T : Txt K mg A) : FnG P w K mg base CX0 1 A.a_sort_key A.d_sort_key ["path"] (sp_sort_key K) := by
  refine fn0 T.f_sort_key sc_sort_key (fun vs H Q E h => ?_) (fun cdv A_ outer s H vs Q E hr h => ?_)
  · first | (obtain ⟨_, rfl, _⟩ := h; rfl) | (obtain ⟨_, _, rfl, _⟩ := h; rfl) | (obtain ⟨_, _, _, rfl, _⟩ := h; rfl) | (obtain ⟨_, _, _, _, rfl, _⟩ := h; rfl) | (obtain ⟨_, _, _, _, _, rfl, _⟩ := h; rfl) | (obtain ⟨_, _, _, _, _, _, rfl, _⟩ := h; rfl) | (obtain ⟨rfl, _⟩ := h; rfl)
  · obtain ⟨l, rfl, hl, hz, q⟩ := h
    refine ⟨_, (pss_one (ps_ret (pe_tup (pa_cons (pe_callB (call_lenUK (K := K) rfl) (by rfl) T.z_len PySem.boot_len (pa_cons (pv 0) pa_nil)) (pa_cons (pe_lc (own := [("step", 1)]) (g := (gName 1)) (tt := tYes) rfl sc_sort_key.nd (pi_str (pv 0)) (blkOk_by (N := nm_sort_key) (sc := defScope s_sort_key) (by decide +kernel)) (fun _ _ _ _ _ => (pg_name (i := 1) sc_sort_key.nd rfl (by first | exact Or.inl rfl | exact Or.inr rfl))) (fun _ _ _ _ _ => pts_nil) (fun _ _ _ _ _ => (pe_m1 PySem.F.slot_str_index PySem.F.type_str_index mt_sindex (pe_gS T.c_STEPS) (pv 1)))) pa_nil))))), ?_⟩
    dsimp only [L2.cxOf, L2.Cx.nox, L2.Cx.wish, L2.start, List.map, List.length_cons, List.length_nil, Nat.reduceAdd, Nat.reduceSub, List.replicate, List.cons_append, List.nil_append, nm_sort_key]
    walk_at "hx go"
    refine g_lenS (by rw [S_len, sizeLine_eq]; omega) ?_
    rw [S_len]
    walk_at "hx go"
    intro D nD
    refine lc_it walk_str (fun i H2 => Same H H2 ∧ H2 D = some (.lst (((l.take i).map fun c => (ixC c : Int)).map V.int))) ?_ ?_ ?_ ?_
    · exact ⟨s_new (Same.refl H) nD, by rw [upd_same]; rfl⟩
    · intro i H2 _ _; trivial
    · rintro i x H2 H3 hi ⟨e2, hD⟩ ⟨rfl, c, ec, rfl⟩
      have ec2 : l[i]? = some c := by rw [← S_cps l, Array.getElem?_toList]; exact ec
      have hc : c ∈ stepC := hl c (List.mem_of_getElem? ec2)
      walk_at "hx go"
      refine ⟨rfl, ?_⟩
      walk_at "hx go"
      refine ⟨_, _, _, _, rfl, rfl, occ_step c hc, ?_⟩
      refine ⟨_, hD, ?_, s_mut e2 nD, ?_⟩
      · rw [List.length_map, List.length_map, List.length_take, sizeLine_eq]
        omega
      · rw [upd_same, List.take_succ, ec2]
        simp
    · rintro H2 ⟨e2, hD⟩
      rw [List.take_of_length_le (by show l.length ≤ (S l).length; rw [S_len]; exact Nat.le_refl _)] at hD
      walk_at "hx go"
      refine g_sz (by simp) fun p np => ?_
      exact q p D _ (s_new e2 np) upd_same (u_old np hD)

theorem sc_precedes : FnScope ["first", "second"] ["first", "second"] (defScope s_precedes) := ⟨rfl, rfl, rfl, by decide +kernel, rfl, by decide +kernel, by decide +kernel⟩
def nm_precedes : List Str := ["first", "second"]
def sp_precedes (K : PySem.W.Frag) (A : Ad) : Sp := fun vs H Q E => ∃ (x y : V), vs = [x, y] ∧
  ((NotP K H x ∧ Err1 A.k_InvalidPath "value" E H x) ∨ ∃ l, x = .str (S l) ∧ IsP l ∧ l.length ≤ 400 ∧
    ((NotP K H y ∧ Err1 A.k_InvalidPath "value" E H y) ∨ ∃ m, y = .str (S m) ∧ IsP m ∧ m.length ≤ 400 ∧ ∀ H', Same H H' → Q (.bl (pre l m)) H'))
theorem ok_precedes (T : Txt K mg A) : FnG P w K mg base (L2.CX P w) 4 A.a_precedes A.d_precedes ["first", "second"] (sp_precedes K A) := by
  refine fnX T.f_precedes sc_precedes (fun vs H Q E h => ?_) (fun cdv A_ outer s H vs Q E hr h => ?_)
  · first | (obtain ⟨_, rfl, _⟩ := h; rfl) | (obtain ⟨_, _, rfl, _⟩ := h; rfl) | (obtain ⟨_, _, _, rfl, _⟩ := h; rfl) | (obtain ⟨_, _, _, _, rfl, _⟩ := h; rfl) | (obtain ⟨_, _, _, _, _, rfl, _⟩ := h; rfl) | (obtain ⟨_, _, _, _, _, _, rfl, _⟩ := h; rfl) | (obtain ⟨rfl, _⟩ := h; rfl)
  · obtain ⟨x, y, rfl, h⟩ := h
    refine ⟨_, (pss_cons (ps_expr (pc_pos (ok_require_path T) (hr.mono (by decide)) (by rfl) T.g_require_path T.f_require_path.kp T.b_require_path (passes_call (takes_of rfl rfl rfl rfl) (fun _ _ _ _ h => h)) (pa_cons (pv 0) pa_nil)))
      (pss_cons (ps_expr (pc_pos (ok_require_path T) (hr.mono (by decide)) (by rfl) T.g_require_path T.f_require_path.kp T.b_require_path (passes_call (takes_of rfl rfl rfl rfl) (fun _ _ _ _ h => h)) (pa_cons (pv 1) pa_nil)))
      (pss_one (ps_ret (pe_cmpR (op_ltUK (K := K) rfl hr.units) (pc_pos (ok_sort_key T) (hr.mono (by decide)) (by rfl) T.g_sort_key T.f_sort_key.kp T.b_sort_key pass0 (pa_cons (pv 0) pa_nil)) (pc_pos (ok_sort_key T) (hr.mono (by decide)) (by rfl) T.g_sort_key T.f_sort_key.kp T.b_sort_key pass0 (pa_cons (pv 1) pa_nil)) rfl))))), ?_⟩
    dsimp only [L2.cxOf, L2.Cx.nox, L2.Cx.wish, L2.start, List.map, List.length_cons, List.length_nil, Nat.reduceAdd, Nat.reduceSub, List.replicate, List.cons_append, List.nil_append, nm_precedes]
    walk_at "hx go"
    rcases h with ⟨hb, q⟩ | ⟨l, rfl, hl, hz, h⟩
    · exact ⟨_, rfl, .inr ⟨hb, q⟩⟩
    refine ⟨_, rfl, .inl ⟨l, rfl, hl, hz, fun H1 e1 => ?_⟩⟩
    walk_at "hx go"
    rcases h with ⟨hb, q⟩ | ⟨m, rfl, hm, hy, q⟩
    · exact ⟨_, rfl, .inr ⟨hb.at e1, q.at e1⟩⟩
    refine ⟨_, rfl, .inl ⟨m, rfl, hm, hy, fun H2 e2 => ?_⟩⟩
    walk_at "hx go"
    refine ⟨l, rfl, hl, by omega, fun a b H3 e3 ha hb => ?_⟩
    walk_at "hx go"
    refine ⟨m, rfl, hm, by omega, fun a' b' H4 e4 ha' hb' => ?_⟩
    walk_at "hx go"
    have dp : ∀ (ks : List Int) (b : Addr), H4 b = some (.lst (ks.map V.int)) → Dp K H4 (.ref b) (.list (ks.map .int)) := fun ks b h => by
      refine .lst (sq_of h) ?_
      clear h
      induction ks with
      | nil => exact .nil
      | cons k r ih => exact .cons (.int k) ih
    refine g_ltD (.tup (st_of (e4 _ _ ha)) (.cons (.int _) (.cons (dp _ _ (e4 _ _ hb)) .nil))) (.tup (st_of ha') (.cons (.int _) (.cons (dp _ _ hb') .nil))) ?_ (fun e => by cases e) ?_ ?_
    · simp only [PySem.W.alike, PySem.W.alikeAll, alike_ints, Bool.and_self]
    · have : ∀ ks : List Int, PyData.depthAll (ks.map .int) = 0 := fun ks => by
        induction ks with
        | nil => rfl
        | cons k r ih => rw [List.map_cons, PyData.depthAll, ih]; rfl
      simp only [PyData.depth, PyData.depthAll, this]
      omega
    · rw [lt_keys]
      have q1 := q H4 (((e1.trans e2).trans e3).trans e4)
      unfold pre at q1
      exact q1

theorem sc_is_reduced : FnScope ["path"] ["path"] (defScope s_is_reduced) := ⟨rfl, rfl, rfl, by decide +kernel, rfl, by decide +kernel, by decide +kernel⟩
def nm_is_reduced : List Str := ["path"]
def sp_is_reduced (K : PySem.W.Frag) (A : Ad) : Sp := fun vs H Q E => ∃ (x : V), vs = [x] ∧
  ((∃ l, x = .str (S l) ∧ IsP l ∧ l.length ≤ 400 ∧ ∀ H', Same H H' → Q (.bl (decide (red l = l))) H') ∨ (NotP K H x ∧ Err1 A.k_InvalidPath "value" E H x))
theorem ok_is_reduced (T : Txt K mg A) : FnG P w K mg base (L2.CX P w) 4 A.a_is_reduced A.d_is_reduced ["path"] (sp_is_reduced K A) := by
  refine fnX T.f_is_reduced sc_is_reduced (fun vs H Q E h => ?_) (fun cdv A_ outer s H vs Q E hr h => ?_)
  · first | (obtain ⟨_, rfl, _⟩ := h; rfl) | (obtain ⟨_, _, rfl, _⟩ := h; rfl) | (obtain ⟨_, _, _, rfl, _⟩ := h; rfl) | (obtain ⟨_, _, _, _, rfl, _⟩ := h; rfl) | (obtain ⟨_, _, _, _, _, rfl, _⟩ := h; rfl) | (obtain ⟨_, _, _, _, _, _, rfl, _⟩ := h; rfl) | (obtain ⟨rfl, _⟩ := h; rfl)
  · obtain ⟨x, rfl, h⟩ := h
    refine ⟨_, (pss_cons (ps_expr (pc_pos (ok_require_path T) (hr.mono (by decide)) (by rfl) T.g_require_path T.f_require_path.kp T.b_require_path (passes_call (takes_of rfl rfl rfl rfl) (fun _ _ _ _ h => h)) (pa_cons (pv 0) pa_nil)))
      (pss_one (ps_ret (pe_cmpR (op_eqUK (K := K) rfl hr.units) (pc_pos (ok_reduce_all T) (hr.mono (by decide)) (by rfl) T.g_reduce_all T.f_reduce_all.kp T.b_reduce_all pass0 (pa_cons (pe_lst (pa_cons (pv 0) pa_nil)) pa_nil)) (pv 0) rfl)))), ?_⟩
    dsimp only [L2.cxOf, L2.Cx.nox, L2.Cx.wish, L2.start, List.map, List.length_cons, List.length_nil, Nat.reduceAdd, Nat.reduceSub, List.replicate, List.cons_append, List.nil_append, nm_is_reduced]
    walk_at "hx go"
    rcases h with ⟨l, rfl, hl, hz, q⟩ | ⟨hb, q⟩
    · refine ⟨_, rfl, .inl ⟨l, rfl, hl, hz, fun H1 e1 => ?_⟩⟩
      walk_at "hx go"
      refine g_sz (by simp) fun p np => ?_
      walk_at "hx go"
      refine ⟨p, [l], rfl, .inl (sq_of upd_same), fun m hm => by rw [List.mem_singleton] at hm; rw [hm]; exact hl, by simp; omega, fun H2 e2 => ?_⟩
      have : [l].flatten = l := by simp
      rw [this]
      walk_at "hx go"
      have e : decide (S (red l) = S l) = decide (red l = l) := decide_eq_decide.mpr ⟨S_inj, fun h => by rw [h]⟩
      rw [e]
      exact q H2 ((s_new e1 np).trans e2)
    · exact ⟨_, rfl, .inr ⟨hb, q⟩⟩

theorem sc_inverse : FnScope ["path"] ["path"] (defScope s_inverse) := ⟨rfl, rfl, rfl, by decide +kernel, rfl, by decide +kernel, by decide +kernel⟩
def nm_inverse : List Str := ["path"]
def sp_inverse (K : PySem.W.Frag) (A : Ad) : Sp := fun vs H Q E => ∃ (x : V), vs = [x] ∧
  ((∃ l, x = .str (S l) ∧ IsP l ∧ l.length ≤ 400 ∧ ∀ H', Same H H' → Q (.str (S (inv l))) H') ∨ (NotP K H x ∧ Err1 A.k_InvalidPath "value" E H x))
theorem ok_inverse (T : Txt K mg A) : FnG P w K mg base (L2.CX P w) 4 A.a_inverse A.d_inverse ["path"] (sp_inverse K A) := by
  refine fnX T.f_inverse sc_inverse (fun vs H Q E h => ?_) (fun cdv A_ outer s H vs Q E hr h => ?_)
  · first | (obtain ⟨_, rfl, _⟩ := h; rfl) | (obtain ⟨_, _, rfl, _⟩ := h; rfl) | (obtain ⟨_, _, _, rfl, _⟩ := h; rfl) | (obtain ⟨_, _, _, _, rfl, _⟩ := h; rfl) | (obtain ⟨_, _, _, _, _, rfl, _⟩ := h; rfl) | (obtain ⟨_, _, _, _, _, _, rfl, _⟩ := h; rfl) | (obtain ⟨rfl, _⟩ := h; rfl)
  · obtain ⟨x, rfl, h⟩ := h
    refine ⟨_, (pss_cons (ps_expr (pc_pos (ok_require_path T) (hr.mono (by decide)) (by rfl) T.g_require_path T.f_require_path.kp T.b_require_path (passes_call (takes_of rfl rfl rfl rfl) (fun _ _ _ _ h => h)) (pa_cons (pv 0) pa_nil)))
      (pss_one (ps_ret (pc_pos (ok_inverted T) (hr.mono (by decide)) (by rfl) T.g_inverted T.f_inverted.kp T.b_inverted pass0 (pa_cons (pv 0) pa_nil))))), ?_⟩
    dsimp only [L2.cxOf, L2.Cx.nox, L2.Cx.wish, L2.start, List.map, List.length_cons, List.length_nil, Nat.reduceAdd, Nat.reduceSub, List.replicate, List.cons_append, List.nil_append, nm_inverse]
    walk_at "hx go"
    rcases h with ⟨l, rfl, hl, hz, q⟩ | ⟨hb, q⟩
    · refine ⟨_, rfl, .inl ⟨l, rfl, hl, hz, fun H1 e1 => ?_⟩⟩
      walk_at "hx go"
      exact ⟨l, rfl, hl, by omega, q H1 e1⟩
    · exact ⟨_, rfl, .inr ⟨hb, q⟩⟩

theorem sc_law_asked : FnScope ["_law_edge", "_law_thing"] ["_law_edge", "_law_thing"] (defScope s_law_asked) := ⟨rfl, rfl, rfl, by decide +kernel, rfl, by decide +kernel, by decide +kernel⟩
def nm_law_asked : List Str := ["_law_edge", "_law_thing"]
def sp_law_asked (K : PySem.W.Frag) (A : Ad) : Sp := fun vs H Q E => ∃ (e : Nat) (x : V), vs = [.int e, x] ∧ e < 7 ∧
  ((∃ l, x = .str (S l) ∧ IsP l ∧ l.length ≤ 400 ∧ ∀ v H', Same H H' → Q v H') ∨ (NotP K H x ∧ Err1 A.k_InvalidPath "value" E H x))
theorem ok_law_asked (T : Txt K mg A) : FnG P w K mg base (L2.CX P w) 7 A.a_law_asked A.d_law_asked ["_law_edge", "_law_thing"] (sp_law_asked K A) := by
  refine fnX T.f_law_asked sc_law_asked (fun vs H Q E h => ?_) (fun cdv A_ outer s H vs Q E hr h => ?_)
  · first | (obtain ⟨_, rfl, _⟩ := h; rfl) | (obtain ⟨_, _, rfl, _⟩ := h; rfl) | (obtain ⟨_, _, _, rfl, _⟩ := h; rfl) | (obtain ⟨_, _, _, _, rfl, _⟩ := h; rfl) | (obtain ⟨_, _, _, _, _, rfl, _⟩ := h; rfl) | (obtain ⟨_, _, _, _, _, _, rfl, _⟩ := h; rfl) | (obtain ⟨rfl, _⟩ := h; rfl)
  · obtain ⟨e, x, rfl, he, h⟩ := h
    refine ⟨_, (pss_cons (ps_if (pt_cmpR (op_eqUK (K := K) rfl hr.units) (pv 0) pe_int rfl) (pss_one (ps_ret (pc_pos (ok_inverse T) (hr.mono (by decide)) (by rfl) T.g_inverse T.f_inverse.kp T.b_inverse (passes_call (takes_of rfl rfl rfl rfl) (fun _ _ _ _ h => h)) (pa_cons (pv 1) pa_nil)))) pss_nil)
      (pss_cons (ps_if (pt_cmpR (op_eqUK (K := K) rfl hr.units) (pv 0) pe_int rfl) (pss_one (ps_ret (pc_pos (ok_reduced T) (hr.mono (by decide)) (by rfl) T.g_reduced T.f_reduced.kp T.b_reduced (passes_call (takes_of rfl rfl rfl rfl) (fun _ _ _ _ h => h)) (pa_cons (pv 1) pa_nil)))) pss_nil)
      (pss_cons (ps_if (pt_cmpR (op_eqUK (K := K) rfl hr.units) (pv 0) pe_int rfl) (pss_one (ps_ret (pc_pos (ok_is_reduced T) (hr.mono (by decide)) (by rfl) T.g_is_reduced T.f_is_reduced.kp T.b_is_reduced (passes_call (takes_of rfl rfl rfl rfl) (fun _ _ _ _ h => h)) (pa_cons (pv 1) pa_nil)))) pss_nil)
      (pss_cons (ps_if (pt_cmpR (op_eqUK (K := K) rfl hr.units) (pv 0) pe_int rfl) (pss_one (ps_ret (pc_pos (ok_precedes T) (hr.mono (by decide)) (by rfl) T.g_precedes T.f_precedes.kp T.b_precedes (passes_call (takes_of rfl rfl rfl rfl) (fun _ _ _ _ h => h)) (pa_cons (pv 1) (pa_cons pe_str pa_nil))))) pss_nil)
      (pss_cons (ps_if (pt_cmpR (op_eqUK (K := K) rfl hr.units) (pv 0) pe_int rfl) (pss_one (ps_ret (pc_pos (ok_precedes T) (hr.mono (by decide)) (by rfl) T.g_precedes T.f_precedes.kp T.b_precedes (passes_call (takes_of rfl rfl rfl rfl) (fun _ _ _ _ h => h)) (pa_cons pe_str (pa_cons (pv 1) pa_nil))))) pss_nil)
      (pss_cons (ps_if (pt_cmpR (op_eqUK (K := K) rfl hr.units) (pv 0) pe_int rfl) (pss_one (ps_ret (pc_pos (ok_cyclic_parts T) (hr.mono (by decide)) (by rfl) T.g_cyclic_parts T.f_cyclic_parts.kp T.b_cyclic_parts (passes_call (takes_of rfl rfl rfl rfl) (fun _ _ _ _ h => h)) (pa_cons (pv 1) pa_nil)))) pss_nil)
      (pss_one (ps_ret (pc_pos (ok_power T) (hr.mono (by decide)) (by rfl) T.g_power T.f_power.kp T.b_power (passes_call (takes_of rfl rfl rfl rfl) (fun _ _ _ _ h => h)) (pa_cons (pv 1) (pa_cons pe_int pa_nil))))))))))), ?_⟩
    dsimp only [L2.cxOf, L2.Cx.nox, L2.Cx.wish, L2.start, List.map, List.length_cons, List.length_nil, Nat.reduceAdd, Nat.reduceSub, List.replicate, List.cons_append, List.nil_append, nm_law_asked]
    have l0 : (Str.ofString "abC") = S [97, 98, 67] := by decide +kernel
    rw [l0]
    walk_at "hx go"
    refine g_byD (fun _ => ?_) (fun _ => ?_)
    · walk_at "hx go"
      rcases h with ⟨l, rfl, hl, hz, q⟩ | ⟨hb, q⟩
      · exact ⟨_, rfl, .inl ⟨l, rfl, hl, hz, fun H1 e1 => q _ H1 e1⟩⟩
      · exact ⟨_, rfl, .inr ⟨hb, q⟩⟩
    walk_at "hx go"
    refine g_byD (fun _ => ?_) (fun _ => ?_)
    · walk_at "hx go"
      rcases h with ⟨l, rfl, hl, hz, q⟩ | ⟨hb, q⟩
      · exact ⟨_, rfl, .inl ⟨l, rfl, hl, hz, fun H1 e1 => q _ H1 e1⟩⟩
      · exact ⟨_, rfl, .inr ⟨hb, q⟩⟩
    walk_at "hx go"
    refine g_byD (fun _ => ?_) (fun _ => ?_)
    · walk_at "hx go"
      rcases h with ⟨l, rfl, hl, hz, q⟩ | ⟨hb, q⟩
      · exact ⟨_, rfl, .inl ⟨l, rfl, hl, hz, fun H1 e1 => q _ H1 e1⟩⟩
      · exact ⟨_, rfl, .inr ⟨hb, q⟩⟩
    walk_at "hx go"
    refine g_byD (fun _ => ?_) (fun _ => ?_)
    · walk_at "hx go"
      rw [S_nil]
      rcases h with ⟨l, rfl, hl, hz, q⟩ | ⟨hb, q⟩
      · exact ⟨_, _, rfl, .inr ⟨l, rfl, hl, hz, .inr ⟨[], rfl, IsP.nil, by decide, fun H1 e1 => q _ H1 e1⟩⟩⟩
      · exact ⟨_, _, rfl, .inl ⟨hb, q⟩⟩
    walk_at "hx go"
    refine g_byD (fun _ => ?_) (fun _ => ?_)
    · walk_at "hx go"
      rcases h with ⟨l, rfl, hl, hz, q⟩ | ⟨hb, q⟩
      · exact ⟨_, _, rfl, .inr ⟨[97, 98, 67], rfl, (by show ∀ c ∈ [97, 98, 67], c ∈ stepC; decide), by decide, .inr ⟨l, rfl, hl, hz, fun H1 e1 => q _ H1 e1⟩⟩⟩
      · exact ⟨_, _, rfl, .inr ⟨[97, 98, 67], rfl, (by show ∀ c ∈ [97, 98, 67], c ∈ stepC; decide), by decide, .inl ⟨hb, q⟩⟩⟩
    walk_at "hx go"
    refine g_byD (fun _ => ?_) (fun _ => ?_)
    · walk_at "hx go"
      rcases h with ⟨l, rfl, hl, hz, q⟩ | ⟨hb, q⟩
      · exact ⟨_, rfl, .inl ⟨l, rfl, hl, hz, fun u c p G H' hu cy e1 np eH => q _ H' (by rw [eH]; exact s_new e1 np)⟩⟩
      · exact ⟨_, rfl, .inr ⟨hb, q⟩⟩
    walk_at "hx go"
    rcases h with ⟨l, rfl, hl, hz, q⟩ | ⟨hb, q⟩
    · refine ⟨_, _, rfl, .inr ⟨l, rfl, hl, hz, .inr ⟨0, rfl, fun u c hu cy => ⟨fun hb => absurd (.inr rfl) hb.1, fun _ H1 e1 => q _ H1 e1⟩⟩⟩⟩
    · exact ⟨_, _, rfl, .inl ⟨hb, q⟩⟩

theorem sc_law_said : FnScope ["_law_edge", "_law_thing", "e"] ["_law_edge", "_law_thing"] (defScope s_law_said) := ⟨rfl, rfl, rfl, by decide +kernel, rfl, by decide +kernel, by decide +kernel⟩
def nm_law_said : List Str := ["_law_edge", "_law_thing", "e"]
/-- z is what repr says of x -/
def Sho (K : PySem.W.Frag) (H : Hp) (x : V) (z : Str) : Prop := (∃ d, Shw K H x d ∧ z = d.shown) ∨ ∃ a, x = .ref a ∧ H a = some (.dK []) ∧ z = PyData.shown (.dict [])
theorem Sho.at {K : PySem.W.Frag} {H H1 : Hp} {x : V} {z : Str} (h : Sho K H x z) (e : Same H H1) : Sho K H1 x z := by
  rcases h with ⟨d, h, rfl⟩ | ⟨a, rfl, h, rfl⟩
  · exact .inl ⟨d, h.at e, rfl⟩
  · exact .inr ⟨a, rfl, e _ _ h, rfl⟩
theorem Sho.go {K : PySem.W.Frag} {H : Hp} {x : V} {z : Str} {Q : VK} (h : Sho K H x z) (q : Q (.str z) H) : rReprD K [x] H Q := by
  rcases h with ⟨d, h, rfl⟩ | ⟨a, rfl, h, rfl⟩
  · exact h.go q
  · exact g_reprE h q
def sp_law_said (K : PySem.W.Frag) : Sp := fun vs H Q _ => ∃ (e : Nat) (x : V), vs = [.int e, x] ∧ e < 7 ∧
  ((∃ l, x = .str (S l) ∧ IsP l ∧ l.length ≤ 400 ∧ ∀ v p H', Same H H' → H' p = some (.lst [.str "told", v]) → Q (.ref p) H') ∨
    (∃ z, NotP K H x ∧ Sho K H x z ∧ ∀ p H', Same H H' → H' p = some (.lst [.str "path", .str z, .bl true, .bl true]) → Q (.ref p) H'))
theorem ok_law_said (T : Txt K mg A) : FnG P w K mg base CX0 8 A.a_law_said A.d_law_said ["_law_edge", "_law_thing"] (sp_law_said K) := by
  refine fn0 T.f_law_said sc_law_said (fun vs H Q E h => ?_) (fun cdv A_ outer s H vs Q E hr h => ?_)
  · first | (obtain ⟨_, rfl, _⟩ := h; rfl) | (obtain ⟨_, _, rfl, _⟩ := h; rfl) | (obtain ⟨_, _, _, rfl, _⟩ := h; rfl) | (obtain ⟨_, _, _, _, rfl, _⟩ := h; rfl) | (obtain ⟨_, _, _, _, _, rfl, _⟩ := h; rfl) | (obtain ⟨_, _, _, _, _, _, rfl, _⟩ := h; rfl) | (obtain ⟨rfl, _⟩ := h; rfl)
  · obtain ⟨e, x, rfl, he, h⟩ := h
    refine ⟨_, (pss_one (ps_tryN rfl rfl takes0 (fun W pn xe tk po => (pss_one (ps_ret (pe_lst (pa_cons pe_str (pa_cons (pc_try (W := W) (ok_law_asked T) (hr.mono (by decide)) (by rfl) T.g_law_asked T.f_law_asked.kp T.b_law_asked tk (pa_cons (pv 0) (pa_cons (pv 1) pa_nil))) pa_nil)))))) (.as (i := 2) ⟨rfl, by decide, Or.inl T.g_InvalidPath⟩ sc_law_said.nd rfl rfl (fun a oe cls d pn hz hf => (pss_one (ps_ret (pe_lst (pa_cons pe_str (pa_cons (pe_callB (call_reprD (K := K) rfl hr.gd hr.units) (by rfl) T.z_repr PyProof.Rows.boot_repr (pa_cons (pe_xf T.x_InvalidPath.xf T.n_InvalidPath_value hz hf (pv 2)) pa_nil)) (pa_cons (pe_callB (call_isX T.x_InvalidPath hz hf) (by rfl) T.z_isinstance PyProof.Rows.boot_isinstance (pa_cons (pv 2) (pa_cons (pe_glob (v := .ref A.k_PathError) (by rfl) T.g_PathError rfl) pa_nil))) (pa_cons (pe_callB (call_isX T.x_InvalidPath hz hf) (by rfl) T.z_isinstance PyProof.Rows.boot_isinstance (pa_cons (pv 2) (pa_cons (pe_bltn (v := .ty "ValueError") (by rfl) T.z_ValueError (by decide +kernel) rfl) pa_nil))) pa_nil)))))))) .nil))), ?_⟩
    dsimp only [L2.cxOf, L2.Cx.nox, L2.Cx.wish, L2.start, List.map, List.length_cons, List.length_nil, Nat.reduceAdd, Nat.reduceSub, List.replicate, List.cons_append, List.nil_append, nm_law_said]
    walk_at "hx go"
    rcases h with ⟨l, rfl, hl, hz, q⟩ | ⟨z, hb, sw, q⟩
    · refine ⟨e, _, rfl, he, .inl ⟨l, rfl, hl, hz, fun v H1 e1 => ?_⟩⟩
      walk_at "hx go"
      refine g_sz (by simp) fun p np => ?_
      exact q _ p _ (s_new e1 np) upd_same
    · refine ⟨e, _, rfl, he, .inr ⟨hb, fun H1 e1 d nd => wn_yes T.m_InvalidPath_InvalidPath fun a na => ?_⟩⟩
      walk_at "hx go"
      refine g_xf1 upd_same ?_
      walk_at "hx go"
      refine (sw.at (s_new e1 nd)).go ?_
      walk_at "hx go"
      refine ⟨_, _, _, _, _, rfl, rfl, fun u h => h, T.ko_InvalidPath_PathError, rfl, upd_same, ?_⟩
      walk_at "hx go"
      refine ⟨_, _, _, _, _, rfl, rfl, fun u h => h, T.ko_InvalidPath_ValueError, rfl, upd_same, ?_⟩
      walk_at "hx go"
      refine g_sz (by simp) fun p np => ?_
      exact q p _ (s_new (s_new e1 nd) np) upd_same

theorem sc_law_is_path : FnScope ["_law_thing", "_law_sign"] ["_law_thing"] (defScope s_law_is_path) := ⟨rfl, rfl, rfl, by decide +kernel, rfl, by decide +kernel, by decide +kernel⟩
def nm_law_is_path : List Str := ["_law_thing", "_law_sign"]
def LP (K : PySem.W.Frag) (H : Hp) (x : V) (b : Bool) : Prop := (∃ z, x = .str z ∧ z.length ≤ 100000 ∧ okS z ∧ b = isP z) ∨ (∃ t, TyX K H x t ∧ PySem.W.kitOne K t (.type "str") = some false ∧ b = false)
theorem steps2 (c : Nat) : (c ∈ (Str.ofString "abcdABCD").cps.toList) ↔ c ∈ stepC := by
  rw [show (Str.ofString "abcdABCD").cps.toList = [97, 98, 99, 100, 65, 66, 67, 68] from by decide +kernel]
  simp only [stepC, List.mem_cons, List.mem_nil_iff, or_false]
  constructor <;> intro h <;> omega
def sp_law_is_path (K : PySem.W.Frag) : Sp := fun vs H Q _ => ∃ (x : V) (b : Bool), vs = [x] ∧ LP K H x b ∧ ∀ H', Same H H' → Q (.bl b) H'
theorem ok_law_is_path (T : Txt K mg A) : FnG P w K mg base CX0 1 A.a_law_is_path A.d_law_is_path ["_law_thing"] (sp_law_is_path K) := by
  refine fn0 T.f_law_is_path sc_law_is_path (fun vs H Q E h => ?_) (fun cdv A_ outer s H vs Q E hr h => ?_)
  · first | (obtain ⟨_, rfl, _⟩ := h; rfl) | (obtain ⟨_, _, rfl, _⟩ := h; rfl) | (obtain ⟨_, _, _, rfl, _⟩ := h; rfl) | (obtain ⟨_, _, _, _, rfl, _⟩ := h; rfl) | (obtain ⟨_, _, _, _, _, rfl, _⟩ := h; rfl) | (obtain ⟨_, _, _, _, _, _, rfl, _⟩ := h; rfl) | (obtain ⟨rfl, _⟩ := h; rfl)
  · obtain ⟨x, b, rfl, h, q⟩ := h
    refine ⟨_, (pss_cons (ps_if (PW.pt (pw_or (pt_not (pt_val (pe_callB (call_isiUK (K := K) rfl) (by rfl) T.z_isinstance PyProof.Rows.boot_isinstance (pa_cons (pv 0) (pa_cons (pe_bltn (v := .ty "str") (by rfl) T.z_str (by decide +kernel) rfl) pa_nil))))) (pw_or1 (pt_cmpR op_gt (pe_callB (call_lenUK (K := K) rfl) (by rfl) T.z_len PySem.boot_len (pa_cons (pv 0) pa_nil)) pe_int rfl)))) (pss_one (ps_ret pe_bl)) pss_nil)
      (pss_one (ps_ret (pe_cmpR (op_eqUK (K := K) rfl hr.units) (pe_lc (own := [("_law_sign", 1)]) (g := (gName 1))  rfl sc_law_is_path.nd (pi_str (pv 0)) (blkOk_by (N := nm_law_is_path) (sc := defScope s_law_is_path) (by decide +kernel)) (fun _ _ _ _ _ => (pg_name (i := 1) sc_law_is_path.nd rfl (by first | exact Or.inl rfl | exact Or.inr rfl))) (fun _ _ _ _ _ => (pts_one (pt_cmpR op_notIn_sign (pv 1) pe_str rfl))) (fun _ _ _ _ _ => (pv 1))) (pe_lst pa_nil) rfl)))), ?_⟩
    dsimp only [L2.cxOf, L2.Cx.nox, L2.Cx.wish, L2.start, List.map, List.length_cons, List.length_nil, Nat.reduceAdd, Nat.reduceSub, List.replicate, List.cons_append, List.nil_append, nm_law_is_path]
    walk_at "hx go"
    rcases h with ⟨z, rfl, hz, ok, rfl⟩ | ⟨t, ht, ek, rfl⟩
    · refine g_isi (.ty _) (.base (.str z)) (kit_ty (r := true) (by decide +kernel)) ?_
      walk_at "hx go"
      refine g_lenS (Nat.le_trans hz (by decide)) ?_
      walk_at "hx go"
      refine g_byD (fun h4 => ?_) (fun h4 => ?_)
      · walk_at "hx go"
        rw [show false = isP z from by unfold isP; rw [decide_eq_false (by omega)]; rfl]
        exact q H (Same.refl H)
      · walk_at "hx go"
        intro D nD
        refine lc_it walk_str (fun i H2 => Same H H2 ∧ H2 D = some (.lst ((((z.cps.toList.take i).filter fun c => !decide (c ∈ stepC)).map sg).map V.str))) ?_ ?_ ?_ ?_
        · exact ⟨s_new (Same.refl H) nD, by rw [upd_same]; rfl⟩
        · intro i H2 _ _; trivial
        · rintro i x H2 H3 hi ⟨e2, hD⟩ ⟨rfl, c, ec, rfl⟩
          have ec2 : z.cps.toList[i]? = some c := by rw [Array.getElem?_toList]; exact ec
          have nxt : ((z.cps.toList.take (i + 1)).filter fun c => !decide (c ∈ stepC)) = ((z.cps.toList.take i).filter fun c => !decide (c ∈ stepC)) ++ (if c ∈ stepC then [] else [c]) := by
            rw [List.take_succ, ec2]
            by_cases h : c ∈ stepC <;> simp [h]
          walk_at "hx go"
          refine ⟨rfl, ?_⟩
          walk_at "hx go"
          refine ⟨c, _, rfl, rfl, ?_⟩
          by_cases hc : c ∈ stepC
          · rw [decide_eq_true ((steps2 c).mpr hc)]
            walk_at "hx go"
            rw [nxt, if_pos hc, List.append_nil]
            exact ⟨e2, hD⟩
          · rw [decide_eq_false (fun h => hc ((steps2 c).mp h))]
            walk_at "hx go"
            refine ⟨_, hD, ?_, s_mut e2 nD, ?_⟩
            · rw [List.length_map, List.length_map, sizeLine_eq]
              have h1 := List.length_filter_le (fun c => !decide (c ∈ stepC)) (z.cps.toList.take i)
              have h2 : z.cps.toList.length ≤ 100000 := by rw [Array.length_toList]; exact hz
              rw [List.length_take] at h1
              omega
            · rw [upd_same, nxt, if_neg hc]
              simp [sg, sg_S]
        · rintro H2 ⟨e2, hD⟩
          rw [List.take_of_length_le (by rw [Array.length_toList]; exact Nat.le_refl _)] at hD
          walk_at "hx go"
          refine g_sz (by simp) fun p np => ?_
          have dpl : Dp K (upd H2 p (.lst [])) (.ref D) (.list ((((z.cps.toList.filter fun c => !decide (c ∈ stepC)).map sg)).map .str)) := .lst (sq_of (u_old np hD)) (dp_map (fun z => .str z) _)
          have shl : SeqAt.shaped (.list ((((z.cps.toList.filter fun c => !decide (c ∈ stepC)).map sg)).map .str)) = true := Emb.str.list.shaped _ fun y hy => by
            obtain ⟨c, hc, rfl⟩ := List.mem_map.mp hy
            have := (Array.all_eq_true_iff_forall_mem (p := fun c => decide (c < 0x110000))).mp ok c (by simpa using (List.mem_filter.mp hc).1)
            show (((S [c]).cps.all fun c => decide (c < 0x110000))) = true
            rw [← Array.all_toList, S_cps]
            simpa using this
          refine g_eqD dpl (.lst (sq_of upd_same) .nil) shl rfl ?_
          rw [eqv_nil Emb.str]
          have fin := q (upd H2 p (.lst [])) (s_new e2 np)
          have eb : isP z = decide (((z.cps.toList.filter fun c => !decide (c ∈ stepC)).map sg) = []) := by
            unfold isP
            rw [decide_eq_true (by omega), Bool.true_and, Bool.eq_iff_iff, List.all_eq_true, decide_eq_true_eq, List.map_eq_nil_iff, List.filter_eq_nil_iff]
            constructor
            · intro h c hc; simpa using h c hc
            · intro h c hc; simpa using h c hc
          rw [eb] at fin
          exact fin
    · refine g_isi (.ty _) ht ek ?_
      walk_at "hx go"
      exact q H (Same.refl H)

theorem sc_law_right : FnScope ["_law_thing", "_law_is_one", "_law_edge", "_law_found"] ["_law_thing"] (defScope s_law_right) := ⟨rfl, rfl, rfl, by decide +kernel, rfl, by decide +kernel, by decide +kernel⟩
def nm_law_right : List Str := ["_law_thing", "_law_is_one", "_law_edge", "_law_found"]
def Thg (K : PySem.W.Frag) (H : Hp) (x : V) : Prop := (∃ l, x = .str (S l) ∧ IsP l ∧ l.length ≤ 400) ∨ (NotP K H x ∧ LP K H x false ∧ ∃ z, Sho K H x z ∧ okS z)
theorem LP.at {K : PySem.W.Frag} {H H1 : Hp} {x : V} {b : Bool} (h : LP K H x b) (e : Same H H1) : LP K H1 x b := by
  rcases h with h | ⟨t, h1, h2⟩
  · exact .inl h
  · exact .inr ⟨t, ty_same e h1, h2⟩
theorem Thg.at {K : PySem.W.Frag} {H H1 : Hp} {x : V} (h : Thg K H x) (e : Same H H1) : Thg K H1 x := by
  rcases h with h | ⟨h1, h2, z, h3, h4⟩
  · exact .inl h
  · exact .inr ⟨h1.at e, h2.at e, z, h3.at e, h4⟩
theorem notP_sp {K : PySem.W.Frag} {H : Hp} {x : V} {Q : VK} {E : XK} (h : NotP K H x) (q : ∀ H', Same H H' → Q (.bl false) H') : sp_is_path K ([x] ++ []) H Q E := by
  refine ⟨x, rfl, ?_⟩
  rcases h with ⟨z, rfl, hz, hb⟩ | ⟨t, ht, ek⟩
  · exact .inl ⟨z, rfl, hz, fun H' e => by rw [hb]; exact q H' e⟩
  · exact .inr ⟨t, ht, ek, q H (Same.refl H)⟩
def outPath (z : Str) : PyData := .list [.str "path", .str z, .bool true, .bool true]
theorem shPath {z : Str} (h : okS z) : SeqAt.shaped (outPath z) = true := shape_list (lay_cons (lay_str (by unfold okS; decide +kernel)) (lay_cons (lay_str h) (lay_cons rfl (lay_cons rfl lay_nil)))) (by simp [PyData.depthAll, PyData.depth])
theorem dpPath {K : PySem.W.Frag} {H : Hp} {p : Addr} {z : Str} (h : H p = some (.lst [.str "path", .str z, .bl true, .bl true])) : Dp K H (.ref p) (outPath z) := .lst (sq_of h) (.cons (.str _) (.cons (.str _) (.cons (.bl _) (.cons (.bl _) .nil))))
def sp_law_right (K : PySem.W.Frag) : Sp := fun vs H Q _ => ∃ (x : V), vs = [x] ∧ Thg K H x ∧ ∀ H', Same H H' → Q (.bl true) H'
theorem ok_law_right (T : Txt K mg A) : FnG P w K mg base CX0 9 A.a_law_right A.d_law_right ["_law_thing"] (sp_law_right K) := by
  refine fn0 T.f_law_right sc_law_right (fun vs H Q E h => ?_) (fun cdv A_ outer s H vs Q E hr h => ?_)
  · first | (obtain ⟨_, rfl, _⟩ := h; rfl) | (obtain ⟨_, _, rfl, _⟩ := h; rfl) | (obtain ⟨_, _, _, rfl, _⟩ := h; rfl) | (obtain ⟨_, _, _, _, rfl, _⟩ := h; rfl) | (obtain ⟨_, _, _, _, _, rfl, _⟩ := h; rfl) | (obtain ⟨_, _, _, _, _, _, rfl, _⟩ := h; rfl) | (obtain ⟨rfl, _⟩ := h; rfl)
  · obtain ⟨x, rfl, h, q⟩ := h
    refine ⟨_, (pss_cons (ps_set (i := 1) sc_law_right.nd rfl (by first | exact Or.inl rfl | exact Or.inr rfl) (pc_pos (ok_law_is_path T) (hr.mono (by decide)) (by rfl) T.g_law_is_path T.f_law_is_path.kp T.b_law_is_path pass0 (pa_cons (pv 0) pa_nil)))
      (pss_cons (ps_if (pt_cmpR (op_neUK (K := K) rfl hr.units) (pe_callB (call_reprD (K := K) rfl hr.gd hr.units) (by rfl) T.z_repr PyProof.Rows.boot_repr (pa_cons (pc_pos (ok_is_path T) (hr.mono (by decide)) (by rfl) T.g_is_path T.f_is_path.kp T.b_is_path pass0 (pa_cons (pv 0) pa_nil)) pa_nil)) (pe_callB (call_reprD (K := K) rfl hr.gd hr.units) (by rfl) T.z_repr PyProof.Rows.boot_repr (pa_cons (pv 1) pa_nil)) rfl) (pss_one (ps_ret pe_bl)) pss_nil)
      (pss_cons (ps_for PassesOwn.never rfl (pi_range1 (by rfl) T.z_range (pa_cons pe_int pa_nil)) (pg_name (i := 2) sc_law_right.nd rfl (by first | exact Or.inl rfl | exact Or.inr rfl)) (pss_cons (ps_set (i := 3) sc_law_right.nd rfl (by first | exact Or.inl rfl | exact Or.inr rfl) (pc_pos (ok_law_said T) (hr.mono (by decide)) (by rfl) T.g_law_said T.f_law_said.kp T.b_law_said pass0 (pa_cons (pv 2) (pa_cons (pv 0) pa_nil))))
      (pss_one (ps_if (PW.pt (pw_or (pt_cmpR (op_neUK (K := K) rfl hr.units) (pe_cmpR (op_eqUK (K := K) rfl hr.units) (pe_ix (ix_seqK (K := K) rfl) (pv 3) pe_int (fun _ _ => rfl)) pe_str rfl) (pv 1) rfl) (pw_or1 (PW.pt (pw_and (pt_not (pt_val (pv 1))) (pw_and1 (pt_cmpR (op_neUK (K := K) rfl hr.units) (pv 3) (pe_lst (pa_cons pe_str (pa_cons (pe_callB (call_reprD (K := K) rfl hr.gd hr.units) (by rfl) T.z_repr PyProof.Rows.boot_repr (pa_cons (pv 0) pa_nil)) (pa_cons pe_bl (pa_cons pe_bl pa_nil))))) rfl))))))) (pss_one (ps_ret pe_bl)) pss_nil))))
      (pss_one (ps_ret pe_bl))))), ?_⟩
    dsimp only [L2.cxOf, L2.Cx.nox, L2.Cx.wish, L2.start, List.map, List.length_cons, List.length_nil, Nat.reduceAdd, Nat.reduceSub, List.replicate, List.cons_append, List.nil_append, nm_law_right]
    walk_at "hx go"
    rcases h with ⟨l, rfl, hl, hz⟩ | ⟨hb, hp, z, sw, ok⟩
    · refine ⟨_, true, rfl, .inl ⟨S l, rfl, by rw [S_len]; omega, step_ok hl, (isP_S hl hz).symm⟩, fun H1 e1 => ?_⟩
      walk_at "hx go"
      refine ⟨_, rfl, .inl ⟨S l, rfl, by rw [S_len]; omega, fun H2 e2 => ?_⟩⟩
      rw [isP_S hl hz]
      walk_at "hx go"
      refine g_byN (fun h => absurd rfl h) fun _ => ?_
      walk_at "hx go"
      refine g_srcR (j := 7) (by omega) ?_
      refine for_it walk_range (fun i σ G => (∃ v2 v3, σ = [some (.str (S l)), some (.bl true), v2, v3]) ∧ Same H G) ⟨⟨_, _, rfl⟩, e1.trans e2⟩ (fun _ _ _ _ _ => trivial) ?_ ?_
      · rintro i x σ G G' hi ⟨⟨v2, v3, rfl⟩, f1⟩ ⟨rfl, rfl⟩
        simp only [Int.zero_add]
        walk_at "hx go"
        refine ⟨i, _, rfl, hi, .inl ⟨l, rfl, hl, hz, fun v p G1 f2 hv => ?_⟩⟩
        walk_at "hx go"
        refine g_ixL (sq_of hv) (v := .str "told") rfl ?_
        walk_at "hx go"
        rw [decide_eq_true rfl, decide_eq_true rfl]
        walk_at "hx go"
        exact ⟨⟨_, _, rfl⟩, f1.trans f2⟩
      · rintro σ G ⟨⟨v2, v3, rfl⟩, f1⟩
        walk_at "hx go"
        exact q G f1
    · refine ⟨_, false, rfl, hp, fun H1 e1 => ?_⟩
      walk_at "hx go"
      refine notP_sp (hb.at e1) fun H2 e2 => ?_
      walk_at "hx go"
      refine g_byN (fun h => absurd rfl h) fun _ => ?_
      walk_at "hx go"
      refine g_srcR (j := 7) (by omega) ?_
      refine for_it walk_range (fun i σ G => (∃ v2 v3, σ = [some x, some (.bl false), v2, v3]) ∧ Same H G) ⟨⟨_, _, rfl⟩, e1.trans e2⟩ (fun _ _ _ _ _ => trivial) ?_ ?_
      · rintro i y σ G G' hi ⟨⟨v2, v3, rfl⟩, f1⟩ ⟨rfl, rfl⟩
        simp only [Int.zero_add]
        walk_at "hx go"
        refine ⟨i, _, rfl, hi, .inr ⟨z, hb.at f1, sw.at f1, fun p G1 f2 hv => ?_⟩⟩
        walk_at "hx go"
        refine g_ixL (sq_of hv) (v := .str "path") rfl ?_
        walk_at "hx go"
        rw [decide_eq_false (show ¬ (Str.ofString "path" = Str.ofString "told") from by decide +kernel), decide_eq_true rfl]
        walk_at "hx go"
        refine (sw.at (f1.trans f2)).go ?_
        walk_at "hx go"
        refine g_sz (by simp) fun r nr => ?_
        refine g_neR (dpPath (u_old nr hv)) (dpPath upd_same) (shPath ok) ?_
        walk_at "hx go"
        exact ⟨⟨_, _, rfl⟩, (f1.trans f2).trans (s_new (Same.refl _) nr)⟩
      · rintro σ G ⟨⟨v2, v3, rfl⟩, f1⟩
        walk_at "hx go"
        exact q G f1

theorem sc_law_path : FnScope ["_law_pool_here", "_law_most", "_law_letters", "_law_turn"] ["_law_pool_here", "_law_most", "_law_letters"] (defScope s_law_path) := ⟨rfl, rfl, rfl, by decide +kernel, rfl, by decide +kernel, by decide +kernel⟩
def nm_law_path : List Str := ["_law_pool_here", "_law_most", "_law_letters", "_law_turn"]
def sp_law_path (K : PySem.W.Frag) : Sp := fun vs H Q _ => ∃ (p : Addr) (most letters : Nat), vs = [.ref p, .int (most : Nat), .int (letters : Nat)] ∧ PoolAt H p ∧ most ≤ 1000 ∧ 1 ≤ letters ∧ letters ≤ 4 ∧
  ∀ (l : List Nat) H', IsP l → l.length ≤ most → But p H H' → PoolAt H' p → Q (.str (S l)) H'
theorem ok_law_path (T : Txt K mg A) : FnG P w K mg base CX0 2 A.a_law_path A.d_law_path ["_law_pool_here", "_law_most", "_law_letters"] (sp_law_path K) := by
  refine fn0 T.f_law_path sc_law_path (fun vs H Q E h => ?_) (fun cdv A_ outer s H vs Q E hr h => ?_)
  · first | (obtain ⟨_, rfl, _⟩ := h; rfl) | (obtain ⟨_, _, rfl, _⟩ := h; rfl) | (obtain ⟨_, _, _, rfl, _⟩ := h; rfl) | (obtain ⟨_, _, _, _, rfl, _⟩ := h; rfl) | (obtain ⟨_, _, _, _, _, rfl, _⟩ := h; rfl) | (obtain ⟨_, _, _, _, _, _, rfl, _⟩ := h; rfl) | (obtain ⟨rfl, _⟩ := h; rfl)
  · obtain ⟨p, most, letters, rfl, hP, hm, hl1, hl4, q⟩ := h
    refine ⟨_, (pss_one (ps_ret (pe_m1 PySem.F.slot_str_join PySem.F.type_str_join (mt_joinK (K := K) rfl) pe_str (pe_lc (own := [("_law_turn", 3)]) (g := (gName 3)) (tt := tYes) rfl sc_law_path.nd (pi_range1 (by rfl) T.z_range (pa_cons (pc_pos (ok_law_take T) (hr.mono (by decide)) (by rfl) T.g_law_take T.f_law_take.kp T.b_law_take pass0 (pa_cons (pv 0) (pa_cons (pe_op op_addU (pv 1) pe_int) pa_nil))) pa_nil)) (blkOk_by (N := nm_law_path) (sc := defScope s_law_path) (by decide +kernel)) (fun _ _ _ _ _ => (pg_name (i := 3) sc_law_path.nd rfl (by first | exact Or.inl rfl | exact Or.inr rfl))) (fun _ _ _ _ _ => pts_nil) (fun _ _ _ _ _ => (pe_ix (ix_seqK (K := K) rfl) pe_str (pc_pos (ok_law_take T) (hr.mono (by decide)) (by rfl) T.g_law_take T.f_law_take.kp T.b_law_take pass0 (pa_cons (pv 0) (pa_cons (pe_op op_mulU pe_int (pv 2)) pa_nil))) (fun _ _ => rfl))))))), ?_⟩
    dsimp only [L2.cxOf, L2.Cx.nox, L2.Cx.wish, L2.start, List.map, List.length_cons, List.length_nil, Nat.reduceAdd, Nat.reduceSub, List.replicate, List.cons_append, List.nil_append, nm_law_path]
    walk_at "hx go"
    refine ⟨p, _, rfl, hP, by omega, by omega, fun d H1 hd b1 f1 P1 => ?_⟩
    walk_at "hx go"
    refine g_srcR (j := (d : Int)) (by omega) ?_
    intro D nD
    have neD : D ≠ p := fun e => by obtain ⟨_, _, _, _, _, e2⟩ := P1; rw [e, e2] at nD; cases nD
    refine lc_it walk_range (fun i H2 => ∃ l : List Nat, l.length = i ∧ IsP l ∧ H2 D = some (.lst ((l.map sg).map V.str)) ∧ But p H H2 ∧ PoolAt H2 p) ?_ ?_ ?_ ?_
    · obtain ⟨x, y, h1, h2, h3, h4⟩ := P1
      exact ⟨[], rfl, IsP.nil, upd_same, But.new b1 nD, ⟨x, y, h1, h2, h3, u_old nD h4⟩⟩
    · intro i H2 _ _; trivial
    · rintro i x H2 H3 hi ⟨l, el, hl, hD, b2, P2⟩ ⟨rfl, rfl⟩
      walk_at "hx go"
      refine ⟨rfl, ?_⟩
      walk_at "hx go"
      refine g_mulI (.inl ⟨by decide, by decide⟩) ?_
      walk_at "hx go"
      refine ⟨p, _, rfl, P2, by omega, by omega, fun j H4 hj b4 f4 P4 => ?_⟩
      walk_at "hx go"
      obtain ⟨c, hc, ec⟩ := step_at (d := j) (by omega)
      refine g_ixS (n := c) (by decide +kernel) (by rw [stepsS, S_cps]; exact atI_nat ec) ?_
      have hD4 := b4 D _ neD hD
      refine ⟨_, hD4, by rw [List.length_map, List.length_map, sizeLine_eq]; omega, l ++ [c], by simp [el], hl.app (.one hc), ?_, ?_, ?_⟩
      · rw [upd_same]; simp [sg_S, sg]
      · exact But.mut (b2.trans b4) (by
          cases e : H D with
          | none => rfl
          | some o => rw [b1 D o neD e] at nD; cases nD)
      · obtain ⟨x, y, h1, h2, h3, h4⟩ := P4
        exact ⟨x, y, h1, h2, h3, u_oth neD.symm h4⟩
    · rintro H2 ⟨l, el, hl, hD, b2, P2⟩
      rw [Int.toNat_natCast] at el
      have hz : ((l.map sg).map (·.length)).sum = l.length := by
        rw [List.map_map]
        clear el hl hD
        induction l with
        | nil => rfl
        | cons c r ih => rw [List.map_cons, List.sum_cons, ih]; simp [sg, S_len]; omega
      refine g_joinK (l := l.map sg) (sq_of hD) ?_ ?_
      · rw [hz]; simp only [List.length_map]; rw [show (Str.ofString "").length = 0 from by decide +kernel]; omega
      · rw [join_sg]
        exact q l H2 hl (by omega) b2 P2

theorem sc_law_pool : FnScope ["_law_script", "_law_k", "_law_cell", "_law_number", "_law_mixed"] ["_law_script", "_law_k"] (defScope s_law_pool) := ⟨rfl, rfl, rfl, by decide +kernel, rfl, by decide +kernel, by decide +kernel⟩
def nm_law_pool : List Str := ["_law_script", "_law_k", "_law_cell", "_law_number", "_law_mixed"]
def sp_law_pool (K : PySem.W.Frag) : Sp := fun vs H Q _ => ∃ (a : Addr) (ns : List Int) (k : Nat), vs = [.ref a, .int (k : Nat)] ∧ SqL K H a (ns.map V.int) ∧ ns.length ≤ 63 ∧ k ≤ 63 ∧
  ∀ p H', Same H H' → H p = none → PoolAt H' p → Q (.ref p) H'
theorem ok_law_pool (T : Txt K mg A) : FnG P w K mg base CX0 1 A.a_law_pool A.d_law_pool ["_law_script", "_law_k"] (sp_law_pool K) := by
  refine fn0 T.f_law_pool sc_law_pool (fun vs H Q E h => ?_) (fun cdv A_ outer s H vs Q E hr h => ?_)
  · first | (obtain ⟨_, rfl, _⟩ := h; rfl) | (obtain ⟨_, _, rfl, _⟩ := h; rfl) | (obtain ⟨_, _, _, rfl, _⟩ := h; rfl) | (obtain ⟨_, _, _, _, rfl, _⟩ := h; rfl) | (obtain ⟨_, _, _, _, _, rfl, _⟩ := h; rfl) | (obtain ⟨_, _, _, _, _, _, rfl, _⟩ := h; rfl) | (obtain ⟨rfl, _⟩ := h; rfl)
  · obtain ⟨a, ns, k, rfl, hS, hl, hk, q⟩ := h
    refine ⟨_, (pss_cons (ps_set (i := 2) sc_law_pool.nd rfl (by first | exact Or.inl rfl | exact Or.inr rfl) (pe_ix (ix_seqK (K := K) rfl) (pe_op op_addU (pe_slice (sl_UK (K := K) rfl) (pv 0) (po_some (pv 1)) (po_some (pe_op op_addU (pv 1) pe_int))) (pe_lst (pa_cons pe_int pa_nil))) pe_int (fun _ _ => rfl)))
      (pss_cons (ps_set (i := 3) sc_law_pool.nd rfl (by first | exact Or.inl rfl | exact Or.inr rfl) (pe_callB (call_maxUK (K := K) rfl rfl) (by rfl) T.z_max PyProof.Rows.boot_max (pa_cons (pv 2) (pa_cons (pe_op op_sub (pe_un un_neg pe_int) (pv 2)) pa_nil))))
      (pss_cons (ps_set (i := 4) sc_law_pool.nd rfl (by first | exact Or.inl rfl | exact Or.inr rfl) (pe_op op_mod (pe_op op_mulU (pe_op op_addU (pe_op op_addU (pe_op op_addU (pe_op op_mod (pv 3) pe_int) (pe_op op_mulU (pe_op op_mulU pe_int (pv 1)) (pv 1))) (pe_op op_mulU pe_int (pv 1))) pe_int) pe_int) pe_int))
      (pss_one (ps_ret (pe_lst (pa_cons (pe_op op_mulU (pv 3) (pe_callTy call_intU (by rfl) T.z_int (by decide +kernel) (pa_cons (pe_cmpR op_ge (pv 3) (pe_op op_pow pe_int pe_int) rfl) pa_nil))) (pa_cons (pe_op op_mod (pe_op op_mulU (pv 4) (pv 4)) pe_int) pa_nil)))))))), ?_⟩
    dsimp only [L2.cxOf, L2.Cx.nox, L2.Cx.wish, L2.start, List.map, List.length_cons, List.length_nil, Nat.reduceAdd, Nat.reduceSub, List.replicate, List.cons_append, List.nil_append, nm_law_pool]
    walk_at "hx go"
    refine g_slL hS fun p1 n1 => ?_
    obtain ⟨ms, hms, ems⟩ := cut_ints ns (some (k : Nat)) (some ((k : Nat) + 1))
    rw [ems]
    walk_at "hx go"
    refine g_sz (by decide) fun p2 n2 => ?_
    walk_at "hx go"
    refine g_addL (by walk_at "hx hp") (by walk_at "hx hp") (by rw [List.length_map, sizeLine_eq]; show ms.length + 1 ≤ _; omega) fun p3 n3 => ?_
    walk_at "hx go"
    obtain ⟨c, hc⟩ := at0 ms
    refine g_ixL (by walk_at "hx sq") hc ?_
    walk_at "hx go"
    have hn : 0 ≤ max c (-1 - c) := by omega
    generalize max c (-1 - c) = n at *
    refine g_mod (by decide) ?_
    walk_at "hx go"
    refine g_mulI (.inl ⟨by decide, by decide⟩) ?_
    walk_at "hx go"
    refine g_mulI (.inr ⟨by omega, by omega⟩) ?_
    walk_at "hx go"
    refine g_mulI (.inl ⟨by decide, by decide⟩) ?_
    walk_at "hx go"
    refine g_mulI (.inr ⟨by decide, by decide⟩) ?_
    walk_at "hx go"
    refine g_mod (by decide) ?_
    have hm0 := Int.emod_nonneg ((n % 2147483629 + 7919 * (k : Int) * (k : Int) + 31 * (k : Int) + 17) * 48271) (show (2147483647 : Int) ≠ 0 by decide)
    have hm1 := Int.emod_lt_of_pos ((n % 2147483629 + 7919 * (k : Int) * (k : Int) + 31 * (k : Int) + 17) * 48271) (show (0 : Int) < 2147483647 by decide)
    generalize ((n % 2147483629 + 7919 * (k : Int) * (k : Int) + 31 * (k : Int) + 17) * 48271) % 2147483647 = m at *
    walk_at "hx go"
    refine g_pow ⟨by decide, by decide, by decide⟩ ?_
    walk_at "hx go"
    obtain ⟨b1, b2⟩ := b01 (decide ((10 : Int) ^ (18 : Int).toNat ≤ n))
    generalize (if decide ((10 : Int) ^ (18 : Int).toNat ≤ n) = true then (1 : Int) else 0) = b at *
    refine g_mulI (.inr ⟨by omega, by omega⟩) ?_
    walk_at "hx go"
    refine g_mulI (.inl ⟨by omega, by omega⟩) ?_
    walk_at "hx go"
    refine g_mod (by decide) ?_
    walk_at "hx go"
    refine g_sz (by simp) fun p4 n4 => ?_
    refine q p4 _ (by walk_at "hx same") (by walk_at "hx free") ⟨_, _, Int.mul_nonneg hn b1, Int.emod_nonneg _ (by decide), by have := Int.emod_lt_of_pos (m * m) (show (0 : Int) < 2147483629 by decide); omega, upd_same⟩

theorem sc_law : FnScope ["_law_script", "_law_size", "_law_thing", "_law_k", "_law_pool_here", "_law_path_here"] ["_law_script"] (defScope s_law) := ⟨rfl, rfl, rfl, by decide +kernel, rfl, by decide +kernel, by decide +kernel⟩
def nm_law : List Str := ["_law_script", "_law_size", "_law_thing", "_law_k", "_law_pool_here", "_law_path_here"]
theorem txt_thg {K : PySem.W.Frag} {H : Hp} {m : List Nat} (lo : ∀ c ∈ m, c < 128) (hz : m.length ≤ 1000) : Thg K H (.str (S m)) := by
  have lS : lowS (S m) := fun c hc => lo c (by rw [S_cps] at hc; exact hc)
  cases e : isP (S m) with
  | true =>
    obtain ⟨l, el, hl, hy⟩ := isP_of e
    exact .inl ⟨l, by rw [el], hl, hy⟩
  | false =>
    refine .inr ⟨.inl ⟨S m, rfl, by rw [S_len]; omega, e⟩, .inl ⟨S m, rfl, by rw [S_len]; omega, lS.ok, e.symm⟩, reprText (S m), .inl ⟨.str (S m), ⟨.str _, rfl, rfl, Nat.zero_le _, ?_⟩, rfl⟩, (low_repr lS).ok⟩
    rw [← sizeLine_eq]
    refine PyData.shown_fits (B := 13) (by decide) (by decide) ?_ ?_
    · rw [PyData.leavesShort, S_cps, List.all_eq_true]
      exact fun c hc => decide_eq_true (by have := lo c hc; omega)
    · rw [PyData.weight, ← Array.length_toList, S_cps]; omega
theorem ty_thg {K : PySem.W.Frag} {H : Hp} {x : V} {t : Value} {z : Str} (ht : TyX K H x t) (k : PySem.W.kitOne K t (.type "str") = some false) (h : Sho K H x z) (ok : okS z) : Thg K H x := .inr ⟨.inr ⟨t, ht, k⟩, .inr ⟨t, ht, k, rfl⟩, z, h, ok⟩
theorem signs_thg {K : PySem.W.Frag} {H : Hp} {r : Addr} {l : List Nat} (hl : IsP l) (hz : l.length ≤ 100) (h : H r = some (.lst ((S l).cps.toList.map fun c => V.str ⟨#[c]⟩))) : Thg K H (.ref r) := by
  have h2 : H r = some (.lst ((l.map fun c => [c]).map tx)) := by rw [h, S_cps, List.map_map]; rfl
  have one : ∀ k ∈ l.map (fun c => [c]), IsP k ∧ k.length ≤ 400 := fun k hk => by
    obtain ⟨c, hc, rfl⟩ := List.mem_map.mp hk
    exact ⟨IsP.one (hl c hc), by simp⟩
  refine ty_thg (.base (.lst h2)) (kit_ty (r := false) (by decide +kernel)) (.inl ⟨_, tx_shw h2 one (by rw [List.length_map]; omega), rfl⟩) ?_
  refine lowS.ok ?_
  rw [PyData.shown, PyData.shownAll_strs]
  refine low_list fun t ht => ?_
  obtain ⟨y, hy, rfl⟩ := List.mem_map.mp ht
  obtain ⟨k, hk, rfl⟩ := List.mem_map.mp hy
  exact low_repr fun c hc => sw_lt c ((one k hk).1 c (by rw [S_cps] at hc; exact hc))
def sp_law (K : PySem.W.Frag) : Sp := fun vs H Q _ => ∃ (a : Addr) (ns : List Int), vs = [.ref a] ∧ SqL K H a (ns.map V.int) ∧ ns.length ≤ 63 ∧ ∀ H', Q (.bl true) H'
theorem ok_law (T : Txt K mg A) : FnG P w K mg base CX0 10 A.a_law A.d_law ["_law_script"] (sp_law K) := by
  refine fn0 T.f_law sc_law (fun vs H Q E h => ?_) (fun cdv A_ outer s H vs Q E hr h => ?_)
  · first | (obtain ⟨_, rfl, _⟩ := h; rfl) | (obtain ⟨_, _, rfl, _⟩ := h; rfl) | (obtain ⟨_, _, _, rfl, _⟩ := h; rfl) | (obtain ⟨_, _, _, _, rfl, _⟩ := h; rfl) | (obtain ⟨_, _, _, _, _, rfl, _⟩ := h; rfl) | (obtain ⟨_, _, _, _, _, _, rfl, _⟩ := h; rfl) | (obtain ⟨rfl, _⟩ := h; rfl)
  · obtain ⟨a, ns, rfl, hS, hn, q⟩ := h
    refine ⟨_, (pss_cons (ps_for PassesOwn.never rfl (pi_listK (K := K) rfl (pe_lst (pa_cons pe_int (pa_cons pe_int (pa_cons pe_int pa_nil))))) (pg_name (i := 1) sc_law.nd rfl (by first | exact Or.inl rfl | exact Or.inr rfl)) (pss_one (ps_if (pt_not (pt_val (pc_pos (ok_law_right T) (hr.mono (by decide)) (by rfl) T.g_law_right T.f_law_right.kp T.b_law_right pass0 (pa_cons (pe_op op_addU (pe_op op_mulU pe_str (pe_op op_fdiv (pv 1) pe_int)) (pe_op op_mulU pe_str (pe_op op_mod (pv 1) pe_int))) pa_nil)))) (pss_one (ps_ret pe_bl)) pss_nil)))
      (pss_cons (ps_for PassesOwn.never rfl (pi_listK (K := K) rfl (pe_lst (pa_cons pe_non (pa_cons pe_int (pa_cons pe_int (pa_cons pe_bl (pa_cons (pe_lst (pa_cons pe_str pa_nil)) (pa_cons (pe_tup (pa_cons pe_str (pa_cons pe_str pa_nil))) (pa_cons (pe_lst pa_nil) (pa_cons pe_dnewK (pa_cons pe_str (pa_cons pe_str (pa_cons pe_str pa_nil))))))))))))) (pg_name (i := 2) sc_law.nd rfl (by first | exact Or.inl rfl | exact Or.inr rfl)) (pss_one (ps_if (pt_not (pt_val (pc_pos (ok_law_right T) (hr.mono (by decide)) (by rfl) T.g_law_right T.f_law_right.kp T.b_law_right pass0 (pa_cons (pv 2) pa_nil)))) (pss_one (ps_ret pe_bl)) pss_nil)))
      (pss_cons (ps_for PassesOwn.never rfl (pi_range1 (by rfl) T.z_range (pa_cons (pe_callB (call_maxUK (K := K) rfl rfl) (by rfl) T.z_max PyProof.Rows.boot_max (pa_cons pe_int (pa_cons (pe_callB (call_minUK (K := K) rfl rfl) (by rfl) T.z_min (by decide +kernel) (pa_cons pe_int (pa_cons (pe_callB (call_lenUK (K := K) rfl) (by rfl) T.z_len PySem.boot_len (pa_cons (pv 0) pa_nil)) pa_nil))) pa_nil))) pa_nil)) (pg_name (i := 3) sc_law.nd rfl (by first | exact Or.inl rfl | exact Or.inr rfl)) (pss_cons (ps_set (i := 4) sc_law.nd rfl (by first | exact Or.inl rfl | exact Or.inr rfl) (pc_pos (ok_law_pool T) (hr.mono (by decide)) (by rfl) T.g_law_pool T.f_law_pool.kp T.b_law_pool pass0 (pa_cons (pv 0) (pa_cons (pv 3) pa_nil))))
      (pss_cons (ps_set (i := 5) sc_law.nd rfl (by first | exact Or.inl rfl | exact Or.inr rfl) (pc_pos (ok_law_path T) (hr.mono (by decide)) (by rfl) T.g_law_path T.f_law_path.kp T.b_law_path pass0 (pa_cons (pv 4) (pa_cons pe_int (pa_cons pe_int pa_nil)))))
      (pss_one (ps_for PassesOwn.never rfl (pi_listK (K := K) rfl (pe_lst (pa_cons (pv 5) (pa_cons (pc_pos (ok_law_bent T) (hr.mono (by decide)) (by rfl) T.g_law_bent T.f_law_bent.kp T.b_law_bent pass0 (pa_cons (pv 4) (pa_cons (pv 5) pa_nil))) (pa_cons (pc_pos (ok_law_bent T) (hr.mono (by decide)) (by rfl) T.g_law_bent T.f_law_bent.kp T.b_law_bent pass0 (pa_cons (pv 4) (pa_cons (pv 5) pa_nil))) (pa_cons (pe_callTy (call_listV (K := K) rfl rfl) (by rfl) T.z_list (by decide +kernel) (pa_cons (pv 5) pa_nil)) pa_nil)))))) (pg_name (i := 2) sc_law.nd rfl (by first | exact Or.inl rfl | exact Or.inr rfl)) (pss_one (ps_if (pt_not (pt_val (pc_pos (ok_law_right T) (hr.mono (by decide)) (by rfl) T.g_law_right T.f_law_right.kp T.b_law_right pass0 (pa_cons (pv 2) pa_nil)))) (pss_one (ps_ret pe_bl)) pss_nil)))))))
      (pss_one (ps_ret pe_bl))))), ?_⟩
    dsimp only [L2.cxOf, L2.Cx.nox, L2.Cx.wish, L2.start, List.map, List.length_cons, List.length_nil, Nat.reduceAdd, Nat.reduceSub, List.replicate, List.cons_append, List.nil_append, nm_law]
    walk_at "hx go"
    refine g_sz (by simp) fun p1 n1 => ?_
    walk_at "hx go"
    refine g_srcL (sq_of upd_same) ?_
    have hp1 : (upd H p1 (.lst [.int 399, .int 400, .int 401])) p1 = some (.lst [.int 399, .int 400, .int 401]) := upd_same
    have e1 := s_new (Same.refl H) n1 (u := .lst [.int 399, .int 400, .int 401])
    generalize upd H p1 (.lst [.int 399, .int 400, .int 401]) = G1 at *
    refine for_it walk_list (fun i σ H2 => (∃ v1 v2 v3 v4 v5, σ = [some (.ref a), v1, v2, v3, v4, v5]) ∧ Same G1 H2) ⟨⟨_, _, _, _, _, rfl⟩, Same.refl _⟩ (fun i σ H2 _ h => sq_same h.2 (sq_of hp1)) ?_ ?_
    · rintro i x σ H2 H3 hi ⟨⟨v1, v2, v3, v4, v5, rfl⟩, f1⟩ ⟨rfl, ex⟩
      obtain ⟨k, rfl, hk⟩ : ∃ k : Nat, x = .int k ∧ k ≤ 401 := by
        have hx := List.mem_of_getElem? ex
        simp only [List.mem_cons, List.mem_nil_iff, or_false] at hx
        rcases hx with rfl | rfl | rfl
        · exact ⟨399, rfl, by decide⟩
        · exact ⟨400, rfl, by decide⟩
        · exact ⟨401, rfl, by decide⟩
      walk_at "hx go"
      refine g_div ⟨by decide, by decide⟩ ?_
      walk_at "hx go"
      rw [show (Str.ofString "ab") = S [97, 98] from by decide +kernel, show (Str.ofString "C") = S [67] from by decide +kernel, show ((k : Int) / 2) = ((k / 2 : Nat) : Int) by omega]
      refine g_mulS (by omega) (by rw [S_len]; show 2 * _ ≤ _; omega) (by decide) ?_
      rw [mulS_S]
      walk_at "hx go"
      refine g_mod (by decide) ?_
      walk_at "hx go"
      rw [show ((k : Int) % 2) = ((k % 2 : Nat) : Int) by omega]
      refine g_mulS (by omega) (by rw [S_len]; show 1 * _ ≤ _; omega) (by decide) ?_
      rw [mulS_S]
      walk_at "hx go"
      refine g_addS (by rw [S_len, S_len, pw_len, pw_len, sizeLine_eq]; show _ * 2 + _ * 1 ≤ _; omega) ?_
      rw [S_app]
      walk_at "hx go"
      refine ⟨_, rfl, txt_thg (fun c hc => ?_) (by rw [List.length_append, pw_len, pw_len]; show _ * 2 + _ * 1 ≤ _; omega), fun H4 e4 => ?_⟩
      · rcases List.mem_append.mp hc with h | h
        · exact sw_lt c (pw_P (c := [97, 98]) (by show ∀ c ∈ [97, 98], c ∈ stepC; decide) _ c h)
        · exact sw_lt c (pw_P (by show ∀ c ∈ [67], c ∈ stepC; decide) _ c h)
      walk_at "hx go"
      exact ⟨⟨_, _, _, _, _, rfl⟩, f1.trans e4⟩
    · rintro σ H2 ⟨⟨v1, v2, v3, v4, v5, rfl⟩, f1⟩
      walk_at "hx go"
      refine g_sz (by simp) fun p2 n2 => ?_
      walk_at "hx go"
      refine g_sz (by simp) fun p3 n3 => ?_
      walk_at "hx go"
      refine g_sz (by simp) fun p4 n4 => ?_
      walk_at "hx go"
      intro p5 n5
      walk_at "hx go"
      refine g_sz (by simp) fun p6 n6 => ?_
      have f6 := s_new (s_new (s_new (s_new (s_new (Same.refl H2) n2 (u := .lst [.str "a"])) n3 (u := .tup [.str "a", .str "b"])) n4 (u := .lst [])) n5 (u := .dK [])) n6 (u := .lst [.non, .int 0, .int 1, .bl true, .ref p2, .ref p3, .ref p4, .ref p5, .str "", .str "a b", .str "abcde"])
      have a2 := u_old n6 (u_old n5 (u_old n4 (u_old n3 (upd_same (H := H2) (a := p2) (o := .lst [.str "a"])) (u := .tup [.str "a", .str "b"])) (u := .lst [])) (u := .dK [])) (u := .lst [.non, .int 0, .int 1, .bl true, .ref p2, .ref p3, .ref p4, .ref p5, .str "", .str "a b", .str "abcde"])
      have a3 : (upd (upd (upd (upd (upd H2 p2 (.lst [.str "a"])) p3 (.tup [.str "a", .str "b"])) p4 (.lst [])) p5 (.dK [])) p6 (.lst [.non, .int 0, .int 1, .bl true, .ref p2, .ref p3, .ref p4, .ref p5, .str "", .str "a b", .str "abcde"])) p3 = some (.tup [.str "a", .str "b"]) := u_old n6 (u_old n5 (u_old n4 upd_same))
      have a4 : (upd (upd (upd (upd (upd H2 p2 (.lst [.str "a"])) p3 (.tup [.str "a", .str "b"])) p4 (.lst [])) p5 (.dK [])) p6 (.lst [.non, .int 0, .int 1, .bl true, .ref p2, .ref p3, .ref p4, .ref p5, .str "", .str "a b", .str "abcde"])) p4 = some (.lst []) := u_old n6 (u_old n5 upd_same)
      have a5 : (upd (upd (upd (upd (upd H2 p2 (.lst [.str "a"])) p3 (.tup [.str "a", .str "b"])) p4 (.lst [])) p5 (.dK [])) p6 (.lst [.non, .int 0, .int 1, .bl true, .ref p2, .ref p3, .ref p4, .ref p5, .str "", .str "a b", .str "abcde"])) p5 = some (.dK []) := u_old n6 upd_same
      have a6 : (upd (upd (upd (upd (upd H2 p2 (.lst [.str "a"])) p3 (.tup [.str "a", .str "b"])) p4 (.lst [])) p5 (.dK [])) p6 (.lst [.non, .int 0, .int 1, .bl true, .ref p2, .ref p3, .ref p4, .ref p5, .str "", .str "a b", .str "abcde"])) p6 = some (.lst [.non, .int 0, .int 1, .bl true, .ref p2, .ref p3, .ref p4, .ref p5, .str "", .str "a b", .str "abcde"]) := upd_same
      generalize upd (upd (upd (upd (upd H2 p2 (.lst [.str "a"])) p3 (.tup [.str "a", .str "b"])) p4 (.lst [])) p5 (.dK [])) p6 (.lst [.non, .int 0, .int 1, .bl true, .ref p2, .ref p3, .ref p4, .ref p5, .str "", .str "a b", .str "abcde"]) = G2 at *
      have facts : ∀ x ∈ [V.non, .int 0, .int 1, .bl true, .ref p2, .ref p3, .ref p4, .ref p5, .str "", .str "a b", .str "abcde"], Thg K G2 x := by
        intro x hx
        simp only [List.mem_cons, List.mem_nil_iff, or_false] at hx
        rcases hx with rfl | rfl | rfl | rfl | rfl | rfl | rfl | rfl | rfl | rfl | rfl
        · exact ty_thg (.base .non) (kit_ty (r := false) (by decide +kernel)) (.inl ⟨.none, ⟨.non, rfl, rfl, Nat.zero_le _, by decide +kernel⟩, rfl⟩) (by unfold okS; decide +kernel)
        · exact ty_thg (.base (.int _)) (kit_ty (r := false) (by decide +kernel)) (.inl ⟨.int 0, ⟨.int _, by decide +kernel, rfl, Nat.zero_le _, by decide +kernel⟩, rfl⟩) (by unfold okS; decide +kernel)
        · exact ty_thg (.base (.int _)) (kit_ty (r := false) (by decide +kernel)) (.inl ⟨.int 1, ⟨.int _, by decide +kernel, rfl, Nat.zero_le _, by decide +kernel⟩, rfl⟩) (by unfold okS; decide +kernel)
        · exact ty_thg (.base (.bl _)) (kit_ty (r := false) (by decide +kernel)) (.inl ⟨.bool true, ⟨.bl _, rfl, rfl, Nat.zero_le _, by decide +kernel⟩, rfl⟩) (by unfold okS; decide +kernel)
        · exact ty_thg (.base (.lst a2)) (kit_ty (r := false) (by decide +kernel)) (.inl ⟨.list [.str "a"], ⟨.lst (sq_of a2) (.cons (.str _) .nil), by decide +kernel, rfl, by decide +kernel, by decide +kernel⟩, rfl⟩) (by unfold okS; decide +kernel)
        · exact ty_thg (.base (.tup a3)) (kit_ty (r := false) (by decide +kernel)) (.inl ⟨.tuple [.str "a", .str "b"], ⟨.tup (st_of a3) (.cons (.str _) (.cons (.str _) .nil)), by decide +kernel, rfl, by decide +kernel, by decide +kernel⟩, rfl⟩) (by unfold okS; decide +kernel)
        · exact ty_thg (.base (.lst a4)) (kit_ty (r := false) (by decide +kernel)) (.inl ⟨.list [], ⟨.lst (sq_of a4) .nil, by decide +kernel, rfl, by decide +kernel, by decide +kernel⟩, rfl⟩) (by unfold okS; decide +kernel)
        · exact ty_thg (.base (.dK a5)) (kit_ty (r := false) (by decide +kernel)) (.inr ⟨p5, rfl, a5, rfl⟩) (by unfold okS; decide +kernel)
        · rw [show (Str.ofString "") = S [] from by decide +kernel]; exact txt_thg (by decide) (by decide)
        · rw [show (Str.ofString "a b") = S [97, 32, 98] from by decide +kernel]; exact txt_thg (by decide) (by decide)
        · rw [show (Str.ofString "abcde") = S [97, 98, 99, 100, 101] from by decide +kernel]; exact txt_thg (by decide) (by decide)
      have e2 : Same H G2 := (e1.trans f1).trans f6
      refine g_srcL (sq_of a6) ?_
      refine for_it walk_list (fun i σ H3 => (∃ v1 v2 v3 v4 v5, σ = [some (.ref a), v1, v2, v3, v4, v5]) ∧ Same G2 H3) ⟨⟨_, _, _, _, _, rfl⟩, Same.refl _⟩ (fun i σ H3 _ h => sq_same h.2 (sq_of a6)) ?_ ?_
      · rintro i x σ H3 H4 hi ⟨⟨v1, v2, v3, v4, v5, rfl⟩, g3⟩ ⟨rfl, ex⟩
        walk_at "hx go"
        refine ⟨_, rfl, (facts x (List.mem_of_getElem? ex)).at g3, fun H5 e5 => ?_⟩
        walk_at "hx go"
        exact ⟨⟨_, _, _, _, _, rfl⟩, g3.trans e5⟩
      · rintro σ H3 ⟨⟨v1, v2, v3, v4, v5, rfl⟩, g3⟩
        have h3 := e2.trans g3
        walk_at "hx go"
        refine g_lenL (h3.seq hS) ?_
        rw [List.length_map]
        walk_at "hx go"
        refine g_srcR (j := max 1 (min 30 (ns.length : Int))) (by omega) ?_
        refine for_it walk_range (fun i σ H4 => (∃ v1 v2 v3 v4 v5, σ = [some (.ref a), v1, v2, v3, v4, v5]) ∧ Same H H4) ⟨⟨_, _, _, _, _, rfl⟩, h3⟩ (fun _ _ _ _ _ => trivial) ?_ ?_
        · rintro i x σ H4 H5 hi ⟨⟨v1, v2, v3, v4, v5, rfl⟩, h4⟩ ⟨rfl, rfl⟩
          simp only [Int.zero_add]
          walk_at "hx go"
          refine ⟨a, ns, i, rfl, h4.seq hS, hn, by omega, fun p H6 e6 np6 P6 => ?_⟩
          walk_at "hx go"
          refine ⟨p, 40, 4, rfl, P6, by decide, by decide, by decide, fun l H7 hl hz b7 P7 => ?_⟩
          walk_at "hx go"
          refine ⟨p, l, rfl, P7, hl, hz, fun m1 H8 lo1 z1 b8 P8 => ?_⟩
          walk_at "hx go"
          refine ⟨p, l, rfl, P8, hl, hz, fun m2 H9 lo2 z2 b9 P9 => ?_⟩
          walk_at "hx go"
          refine g_listS (by rw [S_len]; omega) fun r nr => ?_
          walk_at "hx go"
          refine g_sz (by simp) fun s ns' => ?_
          have base : Same H H9 := h4.trans (((b7.trans b8).trans b9).same e6 np6)
          have baseS := s_new (s_new base nr (u := .lst ((S l).cps.toList.map fun c => V.str ⟨#[c]⟩))) ns' (u := .lst [.str (S l), .str (S m1), .str (S m2), .ref r])
          have hr : (upd (upd H9 r (.lst ((S l).cps.toList.map fun c => V.str ⟨#[c]⟩))) s (.lst [.str (S l), .str (S m1), .str (S m2), .ref r])) r = some (.lst ((S l).cps.toList.map fun c => V.str ⟨#[c]⟩)) := u_old ns' upd_same
          have hs : (upd (upd H9 r (.lst ((S l).cps.toList.map fun c => V.str ⟨#[c]⟩))) s (.lst [.str (S l), .str (S m1), .str (S m2), .ref r])) s = some (.lst [.str (S l), .str (S m1), .str (S m2), .ref r]) := upd_same
          generalize upd (upd H9 r (.lst ((S l).cps.toList.map fun c => V.str ⟨#[c]⟩))) s (.lst [.str (S l), .str (S m1), .str (S m2), .ref r]) = G3 at *
          have fac : ∀ x ∈ [V.str (S l), .str (S m1), .str (S m2), .ref r], Thg K G3 x := by
            intro x hx
            simp only [List.mem_cons, List.mem_nil_iff, or_false] at hx
            rcases hx with rfl | rfl | rfl | rfl
            · exact .inl ⟨l, rfl, hl, by omega⟩
            · exact txt_thg lo1 (by omega)
            · exact txt_thg lo2 (by omega)
            · exact signs_thg hl (by omega) hr
          refine g_srcL (sq_of hs) ?_
          refine for_it walk_list (fun j σ H10 => (∃ v1 v2 v3 v4 v5, σ = [some (.ref a), v1, v2, v3, v4, v5]) ∧ Same G3 H10) ⟨⟨_, _, _, _, _, rfl⟩, Same.refl _⟩ (fun j σ H10 _ h => sq_same h.2 (sq_of hs)) ?_ ?_
          · rintro j x σ H10 H11 hj ⟨⟨v1, v2, v3, v4, v5, rfl⟩, g10⟩ ⟨rfl, ex⟩
            walk_at "hx go"
            refine ⟨_, rfl, (fac x (List.mem_of_getElem? ex)).at g10, fun H12 e12 => ?_⟩
            walk_at "hx go"
            exact ⟨⟨_, _, _, _, _, rfl⟩, g10.trans e12⟩
          · rintro σ H10 ⟨⟨v1, v2, v3, v4, v5, rfl⟩, g10⟩
            walk_at "hx go"
            exact ⟨⟨_, _, _, _, _, rfl⟩, baseS.trans g10⟩
        · rintro σ H4 ⟨⟨v1, v2, v3, v4, v5, rfl⟩, h4⟩
          walk_at "hx go"
          exact q H4

end
theorem all_mk {l : PySem.W.OpenLaw} {w : World} {K : PySem.W.Frag} {h : Heap} {mg : Str → Option Value} {fa : Addr} (X : K.In h) (G : h.Ns mainGlobals mg) (hfa : mg "law" = some (.ref fa))
    {f_law_take f_law_bent f_inverted f_LimitExceeded___init__ f_is_integer f_InvalidNumber___init__ f_split_core f_reduce_all f_is_path f_InvalidPath___init__ f_require_path f_reduced f_cyclic_parts f_power f_sort_key f_precedes f_is_reduced f_inverse f_law_asked f_law_said f_law_is_path f_law_right f_law_path f_law_pool f_law : Addr}
    {od_law_take an_law_take od_law_bent an_law_bent od_inverted an_inverted od_LimitExceeded___init__ an_LimitExceeded___init__ od_is_integer an_is_integer od_InvalidNumber___init__ an_InvalidNumber___init__ od_split_core an_split_core od_reduce_all an_reduce_all od_is_path an_is_path od_InvalidPath___init__ an_InvalidPath___init__ od_require_path an_require_path od_reduced an_reduced od_cyclic_parts an_cyclic_parts od_power an_power od_sort_key an_sort_key od_precedes an_precedes od_is_reduced an_is_reduced od_inverse an_inverse od_law_asked an_law_asked od_law_said an_law_said od_law_is_path an_law_is_path od_law_right an_law_right od_law_path an_law_path od_law_pool an_law_pool od_law an_law : Option Addr}
    {sl_law_take sl_law_bent sl_inverted sl_LimitExceeded___init__ sl_is_integer sl_InvalidNumber___init__ sl_split_core sl_reduce_all sl_is_path sl_InvalidPath___init__ sl_require_path sl_reduced sl_cyclic_parts sl_power sl_sort_key sl_precedes sl_is_reduced sl_inverse sl_law_asked sl_law_said sl_law_is_path sl_law_right sl_law_path sl_law_pool sl_law : Array (Option Value)}
    {oc_law_take kV_law_take dc_law_take pm_law_take cd_law_take ct_law_take oc_law_bent kV_law_bent dc_law_bent pm_law_bent cd_law_bent ct_law_bent oc_inverted kV_inverted dc_inverted pm_inverted cd_inverted ct_inverted oc_LimitExceeded___init__ kV_LimitExceeded___init__ dc_LimitExceeded___init__ pm_LimitExceeded___init__ cd_LimitExceeded___init__ ct_LimitExceeded___init__ oc_is_integer kV_is_integer dc_is_integer pm_is_integer cd_is_integer ct_is_integer oc_InvalidNumber___init__ kV_InvalidNumber___init__ dc_InvalidNumber___init__ pm_InvalidNumber___init__ cd_InvalidNumber___init__ ct_InvalidNumber___init__ oc_split_core kV_split_core dc_split_core pm_split_core cd_split_core ct_split_core oc_reduce_all kV_reduce_all dc_reduce_all pm_reduce_all cd_reduce_all ct_reduce_all oc_is_path kV_is_path dc_is_path pm_is_path cd_is_path ct_is_path oc_InvalidPath___init__ kV_InvalidPath___init__ dc_InvalidPath___init__ pm_InvalidPath___init__ cd_InvalidPath___init__ ct_InvalidPath___init__ oc_require_path kV_require_path dc_require_path pm_require_path cd_require_path ct_require_path oc_reduced kV_reduced dc_reduced pm_reduced cd_reduced ct_reduced oc_cyclic_parts kV_cyclic_parts dc_cyclic_parts pm_cyclic_parts cd_cyclic_parts ct_cyclic_parts oc_power kV_power dc_power pm_power cd_power ct_power oc_sort_key kV_sort_key dc_sort_key pm_sort_key cd_sort_key ct_sort_key oc_precedes kV_precedes dc_precedes pm_precedes cd_precedes ct_precedes oc_is_reduced kV_is_reduced dc_is_reduced pm_is_reduced cd_is_reduced ct_is_reduced oc_inverse kV_inverse dc_inverse pm_inverse cd_inverse ct_inverse oc_law_asked kV_law_asked dc_law_asked pm_law_asked cd_law_asked ct_law_asked oc_law_said kV_law_said dc_law_said pm_law_said cd_law_said ct_law_said oc_law_is_path kV_law_is_path dc_law_is_path pm_law_is_path cd_law_is_path ct_law_is_path oc_law_right kV_law_right dc_law_right pm_law_right cd_law_right ct_law_right oc_law_path kV_law_path dc_law_path pm_law_path cd_law_path ct_law_path oc_law_pool kV_law_pool dc_law_pool pm_law_pool cd_law_pool ct_law_pool oc_law kV_law dc_law pm_law cd_law ct_law : Value}
    {e_InvalidNumber e_InvalidPath e_LimitExceeded e_PathError : Addr}
    {t_MAX_STEPS : Tok}
    {t_STEPS : Tok}
    (a_law_take : PySem.W.nsIn K mainGlobals "_law_take" = some (some (.ref f_law_take)))
    (a_law_bent : PySem.W.nsIn K mainGlobals "_law_bent" = some (some (.ref f_law_bent)))
    (a_inverted : PySem.W.nsIn K mainGlobals "inverted" = some (some (.ref f_inverted)))
    (a_is_integer : PySem.W.nsIn K mainGlobals "is_integer" = some (some (.ref f_is_integer)))
    (a_split_core : PySem.W.nsIn K mainGlobals "split_core" = some (some (.ref f_split_core)))
    (a_reduce_all : PySem.W.nsIn K mainGlobals "reduce_all" = some (some (.ref f_reduce_all)))
    (a_is_path : PySem.W.nsIn K mainGlobals "is_path" = some (some (.ref f_is_path)))
    (a_require_path : PySem.W.nsIn K mainGlobals "require_path" = some (some (.ref f_require_path)))
    (a_reduced : PySem.W.nsIn K mainGlobals "reduced" = some (some (.ref f_reduced)))
    (a_cyclic_parts : PySem.W.nsIn K mainGlobals "cyclic_parts" = some (some (.ref f_cyclic_parts)))
    (a_power : PySem.W.nsIn K mainGlobals "power" = some (some (.ref f_power)))
    (a_sort_key : PySem.W.nsIn K mainGlobals "sort_key" = some (some (.ref f_sort_key)))
    (a_precedes : PySem.W.nsIn K mainGlobals "precedes" = some (some (.ref f_precedes)))
    (a_is_reduced : PySem.W.nsIn K mainGlobals "is_reduced" = some (some (.ref f_is_reduced)))
    (a_inverse : PySem.W.nsIn K mainGlobals "inverse" = some (some (.ref f_inverse)))
    (a_law_asked : PySem.W.nsIn K mainGlobals "_law_asked" = some (some (.ref f_law_asked)))
    (a_law_said : PySem.W.nsIn K mainGlobals "_law_said" = some (some (.ref f_law_said)))
    (a_law_is_path : PySem.W.nsIn K mainGlobals "_law_is_path" = some (some (.ref f_law_is_path)))
    (a_law_right : PySem.W.nsIn K mainGlobals "_law_right" = some (some (.ref f_law_right)))
    (a_law_path : PySem.W.nsIn K mainGlobals "_law_path" = some (some (.ref f_law_path)))
    (a_law_pool : PySem.W.nsIn K mainGlobals "_law_pool" = some (some (.ref f_law_pool)))
    (a_law : PySem.W.nsIn K mainGlobals "law" = some (some (.ref f_law)))
    (ac_InvalidNumber : PySem.W.nsIn K mainGlobals "InvalidNumber" = some (some (.ref e_InvalidNumber)))
    (ac_InvalidPath : PySem.W.nsIn K mainGlobals "InvalidPath" = some (some (.ref e_InvalidPath)))
    (ac_LimitExceeded : PySem.W.nsIn K mainGlobals "LimitExceeded" = some (some (.ref e_LimitExceeded)))
    (ac_PathError : PySem.W.nsIn K mainGlobals "PathError" = some (some (.ref e_PathError)))
    (i_InvalidNumber : PySem.W.findIn K (.ref e_InvalidNumber) "__init__" = some (some (.ref f_InvalidNumber___init__)))
    (i_InvalidPath : PySem.W.findIn K (.ref e_InvalidPath) "__init__" = some (some (.ref f_InvalidPath___init__)))
    (i_LimitExceeded : PySem.W.findIn K (.ref e_LimitExceeded) "__init__" = some (some (.ref f_LimitExceeded___init__)))
    (l_law_take : K.lookup f_law_take = some ⟨oc_law_take, od_law_take, .func (PySem.W.fnOf "_law_take" "_law_take" (defArgs s_law_take) (defBody s_law_take) (defScope s_law_take) .none kV_law_take dc_law_take pm_law_take an_law_take cd_law_take ct_law_take), sl_law_take⟩)
    (c_law_take : PySem.W.codeIn K cd_law_take "_law_take" = true)
    (k_law_take : PySem.W.keepIn K (.ref f_law_take) = true)
    (l_law_bent : K.lookup f_law_bent = some ⟨oc_law_bent, od_law_bent, .func (PySem.W.fnOf "_law_bent" "_law_bent" (defArgs s_law_bent) (defBody s_law_bent) (defScope s_law_bent) .none kV_law_bent dc_law_bent pm_law_bent an_law_bent cd_law_bent ct_law_bent), sl_law_bent⟩)
    (c_law_bent : PySem.W.codeIn K cd_law_bent "_law_bent" = true)
    (k_law_bent : PySem.W.keepIn K (.ref f_law_bent) = true)
    (l_inverted : K.lookup f_inverted = some ⟨oc_inverted, od_inverted, .func (PySem.W.fnOf "inverted" "inverted" (defArgs s_inverted) (defBody s_inverted) (defScope s_inverted) .none kV_inverted dc_inverted pm_inverted an_inverted cd_inverted ct_inverted), sl_inverted⟩)
    (c_inverted : PySem.W.codeIn K cd_inverted "inverted" = true)
    (k_inverted : PySem.W.keepIn K (.ref f_inverted) = true)
    (l_LimitExceeded___init__ : K.lookup f_LimitExceeded___init__ = some ⟨oc_LimitExceeded___init__, od_LimitExceeded___init__, .func (PySem.W.fnOf "__init__" "LimitExceeded.__init__" (defArgs s_LimitExceeded___init__) (defBody s_LimitExceeded___init__) (defScope s_LimitExceeded___init__) .none kV_LimitExceeded___init__ dc_LimitExceeded___init__ pm_LimitExceeded___init__ an_LimitExceeded___init__ cd_LimitExceeded___init__ ct_LimitExceeded___init__), sl_LimitExceeded___init__⟩)
    (c_LimitExceeded___init__ : PySem.W.codeIn K cd_LimitExceeded___init__ "LimitExceeded.__init__" = true)
    (k_LimitExceeded___init__ : PySem.W.keepIn K (.ref f_LimitExceeded___init__) = true)
    (l_is_integer : K.lookup f_is_integer = some ⟨oc_is_integer, od_is_integer, .func (PySem.W.fnOf "is_integer" "is_integer" (defArgs s_is_integer) (defBody s_is_integer) (defScope s_is_integer) .none kV_is_integer dc_is_integer pm_is_integer an_is_integer cd_is_integer ct_is_integer), sl_is_integer⟩)
    (c_is_integer : PySem.W.codeIn K cd_is_integer "is_integer" = true)
    (k_is_integer : PySem.W.keepIn K (.ref f_is_integer) = true)
    (l_InvalidNumber___init__ : K.lookup f_InvalidNumber___init__ = some ⟨oc_InvalidNumber___init__, od_InvalidNumber___init__, .func (PySem.W.fnOf "__init__" "InvalidNumber.__init__" (defArgs s_InvalidNumber___init__) (defBody s_InvalidNumber___init__) (defScope s_InvalidNumber___init__) .none kV_InvalidNumber___init__ dc_InvalidNumber___init__ pm_InvalidNumber___init__ an_InvalidNumber___init__ cd_InvalidNumber___init__ ct_InvalidNumber___init__), sl_InvalidNumber___init__⟩)
    (c_InvalidNumber___init__ : PySem.W.codeIn K cd_InvalidNumber___init__ "InvalidNumber.__init__" = true)
    (k_InvalidNumber___init__ : PySem.W.keepIn K (.ref f_InvalidNumber___init__) = true)
    (l_split_core : K.lookup f_split_core = some ⟨oc_split_core, od_split_core, .func (PySem.W.fnOf "split_core" "split_core" (defArgs s_split_core) (defBody s_split_core) (defScope s_split_core) .none kV_split_core dc_split_core pm_split_core an_split_core cd_split_core ct_split_core), sl_split_core⟩)
    (c_split_core : PySem.W.codeIn K cd_split_core "split_core" = true)
    (k_split_core : PySem.W.keepIn K (.ref f_split_core) = true)
    (l_reduce_all : K.lookup f_reduce_all = some ⟨oc_reduce_all, od_reduce_all, .func (PySem.W.fnOf "reduce_all" "reduce_all" (defArgs s_reduce_all) (defBody s_reduce_all) (defScope s_reduce_all) .none kV_reduce_all dc_reduce_all pm_reduce_all an_reduce_all cd_reduce_all ct_reduce_all), sl_reduce_all⟩)
    (c_reduce_all : PySem.W.codeIn K cd_reduce_all "reduce_all" = true)
    (k_reduce_all : PySem.W.keepIn K (.ref f_reduce_all) = true)
    (l_is_path : K.lookup f_is_path = some ⟨oc_is_path, od_is_path, .func (PySem.W.fnOf "is_path" "is_path" (defArgs s_is_path) (defBody s_is_path) (defScope s_is_path) .none kV_is_path dc_is_path pm_is_path an_is_path cd_is_path ct_is_path), sl_is_path⟩)
    (c_is_path : PySem.W.codeIn K cd_is_path "is_path" = true)
    (k_is_path : PySem.W.keepIn K (.ref f_is_path) = true)
    (l_InvalidPath___init__ : K.lookup f_InvalidPath___init__ = some ⟨oc_InvalidPath___init__, od_InvalidPath___init__, .func (PySem.W.fnOf "__init__" "InvalidPath.__init__" (defArgs s_InvalidPath___init__) (defBody s_InvalidPath___init__) (defScope s_InvalidPath___init__) .none kV_InvalidPath___init__ dc_InvalidPath___init__ pm_InvalidPath___init__ an_InvalidPath___init__ cd_InvalidPath___init__ ct_InvalidPath___init__), sl_InvalidPath___init__⟩)
    (c_InvalidPath___init__ : PySem.W.codeIn K cd_InvalidPath___init__ "InvalidPath.__init__" = true)
    (k_InvalidPath___init__ : PySem.W.keepIn K (.ref f_InvalidPath___init__) = true)
    (l_require_path : K.lookup f_require_path = some ⟨oc_require_path, od_require_path, .func (PySem.W.fnOf "require_path" "require_path" (defArgs s_require_path) (defBody s_require_path) (defScope s_require_path) .none kV_require_path dc_require_path pm_require_path an_require_path cd_require_path ct_require_path), sl_require_path⟩)
    (c_require_path : PySem.W.codeIn K cd_require_path "require_path" = true)
    (k_require_path : PySem.W.keepIn K (.ref f_require_path) = true)
    (l_reduced : K.lookup f_reduced = some ⟨oc_reduced, od_reduced, .func (PySem.W.fnOf "reduced" "reduced" (defArgs s_reduced) (defBody s_reduced) (defScope s_reduced) .none kV_reduced dc_reduced pm_reduced an_reduced cd_reduced ct_reduced), sl_reduced⟩)
    (c_reduced : PySem.W.codeIn K cd_reduced "reduced" = true)
    (k_reduced : PySem.W.keepIn K (.ref f_reduced) = true)
    (l_cyclic_parts : K.lookup f_cyclic_parts = some ⟨oc_cyclic_parts, od_cyclic_parts, .func (PySem.W.fnOf "cyclic_parts" "cyclic_parts" (defArgs s_cyclic_parts) (defBody s_cyclic_parts) (defScope s_cyclic_parts) .none kV_cyclic_parts dc_cyclic_parts pm_cyclic_parts an_cyclic_parts cd_cyclic_parts ct_cyclic_parts), sl_cyclic_parts⟩)
    (c_cyclic_parts : PySem.W.codeIn K cd_cyclic_parts "cyclic_parts" = true)
    (k_cyclic_parts : PySem.W.keepIn K (.ref f_cyclic_parts) = true)
    (l_power : K.lookup f_power = some ⟨oc_power, od_power, .func (PySem.W.fnOf "power" "power" (defArgs s_power) (defBody s_power) (defScope s_power) .none kV_power dc_power pm_power an_power cd_power ct_power), sl_power⟩)
    (c_power : PySem.W.codeIn K cd_power "power" = true)
    (k_power : PySem.W.keepIn K (.ref f_power) = true)
    (l_sort_key : K.lookup f_sort_key = some ⟨oc_sort_key, od_sort_key, .func (PySem.W.fnOf "sort_key" "sort_key" (defArgs s_sort_key) (defBody s_sort_key) (defScope s_sort_key) .none kV_sort_key dc_sort_key pm_sort_key an_sort_key cd_sort_key ct_sort_key), sl_sort_key⟩)
    (c_sort_key : PySem.W.codeIn K cd_sort_key "sort_key" = true)
    (k_sort_key : PySem.W.keepIn K (.ref f_sort_key) = true)
    (l_precedes : K.lookup f_precedes = some ⟨oc_precedes, od_precedes, .func (PySem.W.fnOf "precedes" "precedes" (defArgs s_precedes) (defBody s_precedes) (defScope s_precedes) .none kV_precedes dc_precedes pm_precedes an_precedes cd_precedes ct_precedes), sl_precedes⟩)
    (c_precedes : PySem.W.codeIn K cd_precedes "precedes" = true)
    (k_precedes : PySem.W.keepIn K (.ref f_precedes) = true)
    (l_is_reduced : K.lookup f_is_reduced = some ⟨oc_is_reduced, od_is_reduced, .func (PySem.W.fnOf "is_reduced" "is_reduced" (defArgs s_is_reduced) (defBody s_is_reduced) (defScope s_is_reduced) .none kV_is_reduced dc_is_reduced pm_is_reduced an_is_reduced cd_is_reduced ct_is_reduced), sl_is_reduced⟩)
    (c_is_reduced : PySem.W.codeIn K cd_is_reduced "is_reduced" = true)
    (k_is_reduced : PySem.W.keepIn K (.ref f_is_reduced) = true)
    (l_inverse : K.lookup f_inverse = some ⟨oc_inverse, od_inverse, .func (PySem.W.fnOf "inverse" "inverse" (defArgs s_inverse) (defBody s_inverse) (defScope s_inverse) .none kV_inverse dc_inverse pm_inverse an_inverse cd_inverse ct_inverse), sl_inverse⟩)
    (c_inverse : PySem.W.codeIn K cd_inverse "inverse" = true)
    (k_inverse : PySem.W.keepIn K (.ref f_inverse) = true)
    (l_law_asked : K.lookup f_law_asked = some ⟨oc_law_asked, od_law_asked, .func (PySem.W.fnOf "_law_asked" "_law_asked" (defArgs s_law_asked) (defBody s_law_asked) (defScope s_law_asked) .none kV_law_asked dc_law_asked pm_law_asked an_law_asked cd_law_asked ct_law_asked), sl_law_asked⟩)
    (c_law_asked : PySem.W.codeIn K cd_law_asked "_law_asked" = true)
    (k_law_asked : PySem.W.keepIn K (.ref f_law_asked) = true)
    (l_law_said : K.lookup f_law_said = some ⟨oc_law_said, od_law_said, .func (PySem.W.fnOf "_law_said" "_law_said" (defArgs s_law_said) (defBody s_law_said) (defScope s_law_said) .none kV_law_said dc_law_said pm_law_said an_law_said cd_law_said ct_law_said), sl_law_said⟩)
    (c_law_said : PySem.W.codeIn K cd_law_said "_law_said" = true)
    (k_law_said : PySem.W.keepIn K (.ref f_law_said) = true)
    (l_law_is_path : K.lookup f_law_is_path = some ⟨oc_law_is_path, od_law_is_path, .func (PySem.W.fnOf "_law_is_path" "_law_is_path" (defArgs s_law_is_path) (defBody s_law_is_path) (defScope s_law_is_path) .none kV_law_is_path dc_law_is_path pm_law_is_path an_law_is_path cd_law_is_path ct_law_is_path), sl_law_is_path⟩)
    (c_law_is_path : PySem.W.codeIn K cd_law_is_path "_law_is_path" = true)
    (k_law_is_path : PySem.W.keepIn K (.ref f_law_is_path) = true)
    (l_law_right : K.lookup f_law_right = some ⟨oc_law_right, od_law_right, .func (PySem.W.fnOf "_law_right" "_law_right" (defArgs s_law_right) (defBody s_law_right) (defScope s_law_right) .none kV_law_right dc_law_right pm_law_right an_law_right cd_law_right ct_law_right), sl_law_right⟩)
    (c_law_right : PySem.W.codeIn K cd_law_right "_law_right" = true)
    (k_law_right : PySem.W.keepIn K (.ref f_law_right) = true)
    (l_law_path : K.lookup f_law_path = some ⟨oc_law_path, od_law_path, .func (PySem.W.fnOf "_law_path" "_law_path" (defArgs s_law_path) (defBody s_law_path) (defScope s_law_path) .none kV_law_path dc_law_path pm_law_path an_law_path cd_law_path ct_law_path), sl_law_path⟩)
    (c_law_path : PySem.W.codeIn K cd_law_path "_law_path" = true)
    (k_law_path : PySem.W.keepIn K (.ref f_law_path) = true)
    (l_law_pool : K.lookup f_law_pool = some ⟨oc_law_pool, od_law_pool, .func (PySem.W.fnOf "_law_pool" "_law_pool" (defArgs s_law_pool) (defBody s_law_pool) (defScope s_law_pool) .none kV_law_pool dc_law_pool pm_law_pool an_law_pool cd_law_pool ct_law_pool), sl_law_pool⟩)
    (c_law_pool : PySem.W.codeIn K cd_law_pool "_law_pool" = true)
    (k_law_pool : PySem.W.keepIn K (.ref f_law_pool) = true)
    (l_law : K.lookup f_law = some ⟨oc_law, od_law, .func (PySem.W.fnOf "law" "law" (defArgs s_law) (defBody s_law) (defScope s_law) .none kV_law dc_law pm_law an_law cd_law ct_law), sl_law⟩)
    (c_law : PySem.W.codeIn K cd_law "law" = true)
    (k_law : PySem.W.keepIn K (.ref f_law) = true)
    (n_MAX_STEPS : PySem.W.nsIn K mainGlobals "MAX_STEPS" = some (some (.int 400 t_MAX_STEPS)))
    (n_STEPS : PySem.W.nsIn K mainGlobals "STEPS" = some (some (.str "aAbBcCdD" t_STEPS)))
    (z_OverflowError : PySem.W.nsIn K mainGlobals "OverflowError" = some none)
    (z_ValueError : PySem.W.nsIn K mainGlobals "ValueError" = some none)
    (z_all : PySem.W.nsIn K mainGlobals "all" = some none)
    (z_bool : PySem.W.nsIn K mainGlobals "bool" = some none)
    (z_int : PySem.W.nsIn K mainGlobals "int" = some none)
    (z_isinstance : PySem.W.nsIn K mainGlobals "isinstance" = some none)
    (z_len : PySem.W.nsIn K mainGlobals "len" = some none)
    (z_list : PySem.W.nsIn K mainGlobals "list" = some none)
    (z_max : PySem.W.nsIn K mainGlobals "max" = some none)
    (z_min : PySem.W.nsIn K mainGlobals "min" = some none)
    (z_range : PySem.W.nsIn K mainGlobals "range" = some none)
    (z_repr : PySem.W.nsIn K mainGlobals "repr" = some none)
    (z_str : PySem.W.nsIn K mainGlobals "str" = some none)
    (x_InvalidNumber_im : PySem.W.excInitIn K e_InvalidNumber [.type "ValueError", .type "Exception", .type "BaseException", .type "object"] "ValueError.__new__" = true)
    (x_InvalidNumber_ov : PySem.W.excOver K e_InvalidNumber [.type "ValueError", .type "Exception", .type "BaseException", .type "object"] = true)
    (x_InvalidNumber_hd : PySem.W.hasDictIn K e_InvalidNumber = true)
    (x_InvalidNumber_sa : PySem.W.findIn K (.ref e_InvalidNumber) "__setattr__" = some (some (.builtin "object.__setattr__")))
    (x_InvalidNumber_ga : PySem.W.findIn K (.ref e_InvalidNumber) "__getattribute__" = some (some (.builtin "BaseException.__getattribute__")))
    (x_InvalidNumber_gg : PySem.W.findIn K (.ref e_InvalidNumber) "__getattr__" = some none)
    (x_InvalidNumber_exC : PySem.W.subIn K (.ref e_InvalidNumber) (.type "BaseException") = some true)
    (x_InvalidNumber_tyC : PySem.W.typeIn K (.ref e_InvalidNumber) = some (.type "type"))
    (x_InvalidNumber_kC : PySem.W.keepIn K (.ref e_InvalidNumber) = true)
    (x_InvalidNumber_cl : PySem.W.findIn K (.ref e_InvalidNumber) "__class__" = some (some (.builtin "object.__class__")))
    (x_InvalidNumber_gs : PySem.W.specialIn K (.builtin "object.__class__") "__get__" = some (some (.builtin "getset_descriptor.__get__")))
    (x_InvalidNumber_tk : PySem.W.takesIn K (.builtin "object.__class__") = some true)
    (x_InvalidNumber_mo : PySem.W.mroIn K e_InvalidNumber (.type "object") = some true)
    (x_InvalidPath_im : PySem.W.excInitIn K e_InvalidPath [.type "ValueError", .type "Exception", .type "BaseException", .type "object"] "ValueError.__new__" = true)
    (x_InvalidPath_ov : PySem.W.excOver K e_InvalidPath [.type "ValueError", .type "Exception", .type "BaseException", .type "object"] = true)
    (x_InvalidPath_hd : PySem.W.hasDictIn K e_InvalidPath = true)
    (x_InvalidPath_sa : PySem.W.findIn K (.ref e_InvalidPath) "__setattr__" = some (some (.builtin "object.__setattr__")))
    (x_InvalidPath_ga : PySem.W.findIn K (.ref e_InvalidPath) "__getattribute__" = some (some (.builtin "BaseException.__getattribute__")))
    (x_InvalidPath_gg : PySem.W.findIn K (.ref e_InvalidPath) "__getattr__" = some none)
    (x_InvalidPath_exC : PySem.W.subIn K (.ref e_InvalidPath) (.type "BaseException") = some true)
    (x_InvalidPath_tyC : PySem.W.typeIn K (.ref e_InvalidPath) = some (.type "type"))
    (x_InvalidPath_kC : PySem.W.keepIn K (.ref e_InvalidPath) = true)
    (x_InvalidPath_cl : PySem.W.findIn K (.ref e_InvalidPath) "__class__" = some (some (.builtin "object.__class__")))
    (x_InvalidPath_gs : PySem.W.specialIn K (.builtin "object.__class__") "__get__" = some (some (.builtin "getset_descriptor.__get__")))
    (x_InvalidPath_tk : PySem.W.takesIn K (.builtin "object.__class__") = some true)
    (x_InvalidPath_mo : PySem.W.mroIn K e_InvalidPath (.type "object") = some true)
    (x_LimitExceeded_im : PySem.W.excInitIn K e_LimitExceeded [.type "OverflowError", .type "ArithmeticError", .type "Exception", .type "BaseException", .type "object"] "OverflowError.__new__" = true)
    (x_LimitExceeded_ov : PySem.W.excOver K e_LimitExceeded [.type "OverflowError", .type "ArithmeticError", .type "Exception", .type "BaseException", .type "object"] = true)
    (x_LimitExceeded_hd : PySem.W.hasDictIn K e_LimitExceeded = true)
    (x_LimitExceeded_sa : PySem.W.findIn K (.ref e_LimitExceeded) "__setattr__" = some (some (.builtin "object.__setattr__")))
    (x_LimitExceeded_ga : PySem.W.findIn K (.ref e_LimitExceeded) "__getattribute__" = some (some (.builtin "BaseException.__getattribute__")))
    (x_LimitExceeded_gg : PySem.W.findIn K (.ref e_LimitExceeded) "__getattr__" = some none)
    (x_LimitExceeded_exC : PySem.W.subIn K (.ref e_LimitExceeded) (.type "BaseException") = some true)
    (x_LimitExceeded_tyC : PySem.W.typeIn K (.ref e_LimitExceeded) = some (.type "type"))
    (x_LimitExceeded_kC : PySem.W.keepIn K (.ref e_LimitExceeded) = true)
    (x_LimitExceeded_cl : PySem.W.findIn K (.ref e_LimitExceeded) "__class__" = some (some (.builtin "object.__class__")))
    (x_LimitExceeded_gs : PySem.W.specialIn K (.builtin "object.__class__") "__get__" = some (some (.builtin "getset_descriptor.__get__")))
    (x_LimitExceeded_tk : PySem.W.takesIn K (.builtin "object.__class__") = some true)
    (x_LimitExceeded_mo : PySem.W.mroIn K e_LimitExceeded (.type "object") = some true)
    (t_InvalidNumber : PySem.W.typeIn K (.ref f_InvalidNumber___init__) = some (.type "function"))
    (t_InvalidPath : PySem.W.typeIn K (.ref f_InvalidPath___init__) = some (.type "function"))
    (t_LimitExceeded : PySem.W.typeIn K (.ref f_LimitExceeded___init__) = some (.type "function"))
    (n_InvalidNumber_value : PySem.W.findIn K (.ref e_InvalidNumber) "value" = some none)
    (n_InvalidPath_value : PySem.W.findIn K (.ref e_InvalidPath) "value" = some none)
    (n_LimitExceeded_limit : PySem.W.findIn K (.ref e_LimitExceeded) "limit" = some none)
    (v_OverflowError : PySem.W.findCls K (.type "OverflowError") (.type "type") "__init__" = some (.val (.builtin "OverflowError.__init__")))
    (s_PathError : PySem.W.specialIn K (.ref e_PathError) "__getattribute__" = some (some (.builtin "type.__getattribute__")))
    (r_PathError : PySem.W.readsIn K e_PathError (.type "type") = true)
    (v_PathError : PySem.W.findCls K (.ref e_PathError) (.type "type") "__init__" = some (.val (.builtin "ValueError.__init__")))
    (ko_InvalidPath_PathError : PySem.W.kitOne K (.ref e_InvalidPath) (.ref e_PathError) = some true)
    (ko_InvalidPath_ValueError : PySem.W.kitOne K (.ref e_InvalidPath) (.type "ValueError") = some true)
    (sb_InvalidPath_InvalidPath : PySem.W.subIn K (.ref e_InvalidPath) (.ref e_InvalidPath) = some true) :
    ∃ fd : FuncData, (∀ (s : Shared) (v : Value), BindsTo s fd ⟨[v], []⟩ [("_law_script", v)]) ∧ ∀ base : Heap, K.In base → base.Ns mainGlobals mg → FnG l.prog w K mg base CX0 10 fa fd ["_law_script"] (sp_law K) := by
  have e := hfa.symm.trans (PySem.W.mg_of X G a_law)
  cases e
  have T : Txt K mg ⟨f_law_take, PySem.W.fnOf "_law_take" "_law_take" (defArgs s_law_take) (defBody s_law_take) (defScope s_law_take) .none kV_law_take dc_law_take pm_law_take an_law_take cd_law_take ct_law_take, f_law_bent, PySem.W.fnOf "_law_bent" "_law_bent" (defArgs s_law_bent) (defBody s_law_bent) (defScope s_law_bent) .none kV_law_bent dc_law_bent pm_law_bent an_law_bent cd_law_bent ct_law_bent, f_inverted, PySem.W.fnOf "inverted" "inverted" (defArgs s_inverted) (defBody s_inverted) (defScope s_inverted) .none kV_inverted dc_inverted pm_inverted an_inverted cd_inverted ct_inverted, f_LimitExceeded___init__, PySem.W.fnOf "__init__" "LimitExceeded.__init__" (defArgs s_LimitExceeded___init__) (defBody s_LimitExceeded___init__) (defScope s_LimitExceeded___init__) .none kV_LimitExceeded___init__ dc_LimitExceeded___init__ pm_LimitExceeded___init__ an_LimitExceeded___init__ cd_LimitExceeded___init__ ct_LimitExceeded___init__, f_is_integer, PySem.W.fnOf "is_integer" "is_integer" (defArgs s_is_integer) (defBody s_is_integer) (defScope s_is_integer) .none kV_is_integer dc_is_integer pm_is_integer an_is_integer cd_is_integer ct_is_integer, f_InvalidNumber___init__, PySem.W.fnOf "__init__" "InvalidNumber.__init__" (defArgs s_InvalidNumber___init__) (defBody s_InvalidNumber___init__) (defScope s_InvalidNumber___init__) .none kV_InvalidNumber___init__ dc_InvalidNumber___init__ pm_InvalidNumber___init__ an_InvalidNumber___init__ cd_InvalidNumber___init__ ct_InvalidNumber___init__, f_split_core, PySem.W.fnOf "split_core" "split_core" (defArgs s_split_core) (defBody s_split_core) (defScope s_split_core) .none kV_split_core dc_split_core pm_split_core an_split_core cd_split_core ct_split_core, f_reduce_all, PySem.W.fnOf "reduce_all" "reduce_all" (defArgs s_reduce_all) (defBody s_reduce_all) (defScope s_reduce_all) .none kV_reduce_all dc_reduce_all pm_reduce_all an_reduce_all cd_reduce_all ct_reduce_all, f_is_path, PySem.W.fnOf "is_path" "is_path" (defArgs s_is_path) (defBody s_is_path) (defScope s_is_path) .none kV_is_path dc_is_path pm_is_path an_is_path cd_is_path ct_is_path, f_InvalidPath___init__, PySem.W.fnOf "__init__" "InvalidPath.__init__" (defArgs s_InvalidPath___init__) (defBody s_InvalidPath___init__) (defScope s_InvalidPath___init__) .none kV_InvalidPath___init__ dc_InvalidPath___init__ pm_InvalidPath___init__ an_InvalidPath___init__ cd_InvalidPath___init__ ct_InvalidPath___init__, f_require_path, PySem.W.fnOf "require_path" "require_path" (defArgs s_require_path) (defBody s_require_path) (defScope s_require_path) .none kV_require_path dc_require_path pm_require_path an_require_path cd_require_path ct_require_path, f_reduced, PySem.W.fnOf "reduced" "reduced" (defArgs s_reduced) (defBody s_reduced) (defScope s_reduced) .none kV_reduced dc_reduced pm_reduced an_reduced cd_reduced ct_reduced, f_cyclic_parts, PySem.W.fnOf "cyclic_parts" "cyclic_parts" (defArgs s_cyclic_parts) (defBody s_cyclic_parts) (defScope s_cyclic_parts) .none kV_cyclic_parts dc_cyclic_parts pm_cyclic_parts an_cyclic_parts cd_cyclic_parts ct_cyclic_parts, f_power, PySem.W.fnOf "power" "power" (defArgs s_power) (defBody s_power) (defScope s_power) .none kV_power dc_power pm_power an_power cd_power ct_power, f_sort_key, PySem.W.fnOf "sort_key" "sort_key" (defArgs s_sort_key) (defBody s_sort_key) (defScope s_sort_key) .none kV_sort_key dc_sort_key pm_sort_key an_sort_key cd_sort_key ct_sort_key, f_precedes, PySem.W.fnOf "precedes" "precedes" (defArgs s_precedes) (defBody s_precedes) (defScope s_precedes) .none kV_precedes dc_precedes pm_precedes an_precedes cd_precedes ct_precedes, f_is_reduced, PySem.W.fnOf "is_reduced" "is_reduced" (defArgs s_is_reduced) (defBody s_is_reduced) (defScope s_is_reduced) .none kV_is_reduced dc_is_reduced pm_is_reduced an_is_reduced cd_is_reduced ct_is_reduced, f_inverse, PySem.W.fnOf "inverse" "inverse" (defArgs s_inverse) (defBody s_inverse) (defScope s_inverse) .none kV_inverse dc_inverse pm_inverse an_inverse cd_inverse ct_inverse, f_law_asked, PySem.W.fnOf "_law_asked" "_law_asked" (defArgs s_law_asked) (defBody s_law_asked) (defScope s_law_asked) .none kV_law_asked dc_law_asked pm_law_asked an_law_asked cd_law_asked ct_law_asked, f_law_said, PySem.W.fnOf "_law_said" "_law_said" (defArgs s_law_said) (defBody s_law_said) (defScope s_law_said) .none kV_law_said dc_law_said pm_law_said an_law_said cd_law_said ct_law_said, f_law_is_path, PySem.W.fnOf "_law_is_path" "_law_is_path" (defArgs s_law_is_path) (defBody s_law_is_path) (defScope s_law_is_path) .none kV_law_is_path dc_law_is_path pm_law_is_path an_law_is_path cd_law_is_path ct_law_is_path, f_law_right, PySem.W.fnOf "_law_right" "_law_right" (defArgs s_law_right) (defBody s_law_right) (defScope s_law_right) .none kV_law_right dc_law_right pm_law_right an_law_right cd_law_right ct_law_right, f_law_path, PySem.W.fnOf "_law_path" "_law_path" (defArgs s_law_path) (defBody s_law_path) (defScope s_law_path) .none kV_law_path dc_law_path pm_law_path an_law_path cd_law_path ct_law_path, f_law_pool, PySem.W.fnOf "_law_pool" "_law_pool" (defArgs s_law_pool) (defBody s_law_pool) (defScope s_law_pool) .none kV_law_pool dc_law_pool pm_law_pool an_law_pool cd_law_pool ct_law_pool, fa, PySem.W.fnOf "law" "law" (defArgs s_law) (defBody s_law) (defScope s_law) .none kV_law dc_law pm_law an_law cd_law ct_law, e_InvalidNumber, e_InvalidPath, e_LimitExceeded, e_PathError⟩ := {
    g_InvalidNumber := PySem.W.mg_of X G ac_InvalidNumber
    g_InvalidPath := PySem.W.mg_of X G ac_InvalidPath
    g_LimitExceeded := PySem.W.mg_of X G ac_LimitExceeded
    g_PathError := PySem.W.mg_of X G ac_PathError
    i_InvalidNumber := i_InvalidNumber
    i_InvalidPath := i_InvalidPath
    i_LimitExceeded := i_LimitExceeded
    f_law_take := fun_mk (st := s_law_take) l_law_take c_law_take k_law_take
    g_law_take := PySem.W.mg_of X G a_law_take
    b_law_take := (fun_mk (st := s_law_take) l_law_take c_law_take k_law_take).binds (ps := ["_law_pool_here", "_law_many"]) fun _ _ _ _ _ _ us hl => match us, hl with | [_, _], _ => rfl
    f_law_bent := fun_mk (st := s_law_bent) l_law_bent c_law_bent k_law_bent
    g_law_bent := PySem.W.mg_of X G a_law_bent
    b_law_bent := (fun_mk (st := s_law_bent) l_law_bent c_law_bent k_law_bent).binds (ps := ["_law_pool_here", "_law_path_here"]) fun _ _ _ _ _ _ us hl => match us, hl with | [_, _], _ => rfl
    f_inverted := fun_mk (st := s_inverted) l_inverted c_inverted k_inverted
    g_inverted := PySem.W.mg_of X G a_inverted
    b_inverted := (fun_mk (st := s_inverted) l_inverted c_inverted k_inverted).binds (ps := ["steps"]) fun _ _ _ _ _ _ us hl => match us, hl with | [_], _ => rfl
    f_LimitExceeded___init__ := fun_mk (st := s_LimitExceeded___init__) l_LimitExceeded___init__ c_LimitExceeded___init__ k_LimitExceeded___init__
    b_LimitExceeded___init__ := (fun_mk (st := s_LimitExceeded___init__) l_LimitExceeded___init__ c_LimitExceeded___init__ k_LimitExceeded___init__).binds (ps := ["self", "limit"]) fun _ _ _ _ _ _ us hl => match us, hl with | [_, _], _ => rfl
    f_is_integer := fun_mk (st := s_is_integer) l_is_integer c_is_integer k_is_integer
    g_is_integer := PySem.W.mg_of X G a_is_integer
    b_is_integer := (fun_mk (st := s_is_integer) l_is_integer c_is_integer k_is_integer).binds (ps := ["value"]) fun _ _ _ _ _ _ us hl => match us, hl with | [_], _ => rfl
    f_InvalidNumber___init__ := fun_mk (st := s_InvalidNumber___init__) l_InvalidNumber___init__ c_InvalidNumber___init__ k_InvalidNumber___init__
    b_InvalidNumber___init__ := (fun_mk (st := s_InvalidNumber___init__) l_InvalidNumber___init__ c_InvalidNumber___init__ k_InvalidNumber___init__).binds (ps := ["self", "value"]) fun _ _ _ _ _ _ us hl => match us, hl with | [_, _], _ => rfl
    f_split_core := fun_mk (st := s_split_core) l_split_core c_split_core k_split_core
    g_split_core := PySem.W.mg_of X G a_split_core
    b_split_core := (fun_mk (st := s_split_core) l_split_core c_split_core k_split_core).binds (ps := ["steps"]) fun _ _ _ _ _ _ us hl => match us, hl with | [_], _ => rfl
    f_reduce_all := fun_mk (st := s_reduce_all) l_reduce_all c_reduce_all k_reduce_all
    g_reduce_all := PySem.W.mg_of X G a_reduce_all
    b_reduce_all := (fun_mk (st := s_reduce_all) l_reduce_all c_reduce_all k_reduce_all).binds (ps := ["parts"]) fun _ _ _ _ _ _ us hl => match us, hl with | [_], _ => rfl
    f_is_path := fun_mk (st := s_is_path) l_is_path c_is_path k_is_path
    g_is_path := PySem.W.mg_of X G a_is_path
    b_is_path := (fun_mk (st := s_is_path) l_is_path c_is_path k_is_path).binds (ps := ["value"]) fun _ _ _ _ _ _ us hl => match us, hl with | [_], _ => rfl
    f_InvalidPath___init__ := fun_mk (st := s_InvalidPath___init__) l_InvalidPath___init__ c_InvalidPath___init__ k_InvalidPath___init__
    b_InvalidPath___init__ := (fun_mk (st := s_InvalidPath___init__) l_InvalidPath___init__ c_InvalidPath___init__ k_InvalidPath___init__).binds (ps := ["self", "value"]) fun _ _ _ _ _ _ us hl => match us, hl with | [_, _], _ => rfl
    f_require_path := fun_mk (st := s_require_path) l_require_path c_require_path k_require_path
    g_require_path := PySem.W.mg_of X G a_require_path
    b_require_path := (fun_mk (st := s_require_path) l_require_path c_require_path k_require_path).binds (ps := ["value"]) fun _ _ _ _ _ _ us hl => match us, hl with | [_], _ => rfl
    f_reduced := fun_mk (st := s_reduced) l_reduced c_reduced k_reduced
    g_reduced := PySem.W.mg_of X G a_reduced
    b_reduced := (fun_mk (st := s_reduced) l_reduced c_reduced k_reduced).binds (ps := ["path"]) fun _ _ _ _ _ _ us hl => match us, hl with | [_], _ => rfl
    f_cyclic_parts := fun_mk (st := s_cyclic_parts) l_cyclic_parts c_cyclic_parts k_cyclic_parts
    g_cyclic_parts := PySem.W.mg_of X G a_cyclic_parts
    b_cyclic_parts := (fun_mk (st := s_cyclic_parts) l_cyclic_parts c_cyclic_parts k_cyclic_parts).binds (ps := ["path"]) fun _ _ _ _ _ _ us hl => match us, hl with | [_], _ => rfl
    f_power := fun_mk (st := s_power) l_power c_power k_power
    g_power := PySem.W.mg_of X G a_power
    b_power := (fun_mk (st := s_power) l_power c_power k_power).binds (ps := ["path", "exponent"]) fun _ _ _ _ _ _ us hl => match us, hl with | [_, _], _ => rfl
    f_sort_key := fun_mk (st := s_sort_key) l_sort_key c_sort_key k_sort_key
    g_sort_key := PySem.W.mg_of X G a_sort_key
    b_sort_key := (fun_mk (st := s_sort_key) l_sort_key c_sort_key k_sort_key).binds (ps := ["path"]) fun _ _ _ _ _ _ us hl => match us, hl with | [_], _ => rfl
    f_precedes := fun_mk (st := s_precedes) l_precedes c_precedes k_precedes
    g_precedes := PySem.W.mg_of X G a_precedes
    b_precedes := (fun_mk (st := s_precedes) l_precedes c_precedes k_precedes).binds (ps := ["first", "second"]) fun _ _ _ _ _ _ us hl => match us, hl with | [_, _], _ => rfl
    f_is_reduced := fun_mk (st := s_is_reduced) l_is_reduced c_is_reduced k_is_reduced
    g_is_reduced := PySem.W.mg_of X G a_is_reduced
    b_is_reduced := (fun_mk (st := s_is_reduced) l_is_reduced c_is_reduced k_is_reduced).binds (ps := ["path"]) fun _ _ _ _ _ _ us hl => match us, hl with | [_], _ => rfl
    f_inverse := fun_mk (st := s_inverse) l_inverse c_inverse k_inverse
    g_inverse := PySem.W.mg_of X G a_inverse
    b_inverse := (fun_mk (st := s_inverse) l_inverse c_inverse k_inverse).binds (ps := ["path"]) fun _ _ _ _ _ _ us hl => match us, hl with | [_], _ => rfl
    f_law_asked := fun_mk (st := s_law_asked) l_law_asked c_law_asked k_law_asked
    g_law_asked := PySem.W.mg_of X G a_law_asked
    b_law_asked := (fun_mk (st := s_law_asked) l_law_asked c_law_asked k_law_asked).binds (ps := ["_law_edge", "_law_thing"]) fun _ _ _ _ _ _ us hl => match us, hl with | [_, _], _ => rfl
    f_law_said := fun_mk (st := s_law_said) l_law_said c_law_said k_law_said
    g_law_said := PySem.W.mg_of X G a_law_said
    b_law_said := (fun_mk (st := s_law_said) l_law_said c_law_said k_law_said).binds (ps := ["_law_edge", "_law_thing"]) fun _ _ _ _ _ _ us hl => match us, hl with | [_, _], _ => rfl
    f_law_is_path := fun_mk (st := s_law_is_path) l_law_is_path c_law_is_path k_law_is_path
    g_law_is_path := PySem.W.mg_of X G a_law_is_path
    b_law_is_path := (fun_mk (st := s_law_is_path) l_law_is_path c_law_is_path k_law_is_path).binds (ps := ["_law_thing"]) fun _ _ _ _ _ _ us hl => match us, hl with | [_], _ => rfl
    f_law_right := fun_mk (st := s_law_right) l_law_right c_law_right k_law_right
    g_law_right := PySem.W.mg_of X G a_law_right
    b_law_right := (fun_mk (st := s_law_right) l_law_right c_law_right k_law_right).binds (ps := ["_law_thing"]) fun _ _ _ _ _ _ us hl => match us, hl with | [_], _ => rfl
    f_law_path := fun_mk (st := s_law_path) l_law_path c_law_path k_law_path
    g_law_path := PySem.W.mg_of X G a_law_path
    b_law_path := (fun_mk (st := s_law_path) l_law_path c_law_path k_law_path).binds (ps := ["_law_pool_here", "_law_most", "_law_letters"]) fun _ _ _ _ _ _ us hl => match us, hl with | [_, _, _], _ => rfl
    f_law_pool := fun_mk (st := s_law_pool) l_law_pool c_law_pool k_law_pool
    g_law_pool := PySem.W.mg_of X G a_law_pool
    b_law_pool := (fun_mk (st := s_law_pool) l_law_pool c_law_pool k_law_pool).binds (ps := ["_law_script", "_law_k"]) fun _ _ _ _ _ _ us hl => match us, hl with | [_, _], _ => rfl
    f_law := fun_mk (st := s_law) l_law c_law k_law
    g_law := PySem.W.mg_of X G a_law
    b_law := (fun_mk (st := s_law) l_law c_law k_law).binds (ps := ["_law_script"]) fun _ _ _ _ _ _ us hl => match us, hl with | [_], _ => rfl
    c_MAX_STEPS := ⟨_, PySem.W.mg_of X G n_MAX_STEPS⟩
    c_STEPS := ⟨_, PySem.W.mg_of X G n_STEPS⟩
    z_OverflowError := PySem.W.mg_none_of X G z_OverflowError
    z_ValueError := PySem.W.mg_none_of X G z_ValueError
    z_all := PySem.W.mg_none_of X G z_all
    z_bool := PySem.W.mg_none_of X G z_bool
    z_int := PySem.W.mg_none_of X G z_int
    z_isinstance := PySem.W.mg_none_of X G z_isinstance
    z_len := PySem.W.mg_none_of X G z_len
    z_list := PySem.W.mg_none_of X G z_list
    z_max := PySem.W.mg_none_of X G z_max
    z_min := PySem.W.mg_none_of X G z_min
    z_range := PySem.W.mg_none_of X G z_range
    z_repr := PySem.W.mg_none_of X G z_repr
    z_str := PySem.W.mg_none_of X G z_str
    x_InvalidNumber := ⟨x_InvalidNumber_im, x_InvalidNumber_ov, x_InvalidNumber_hd, x_InvalidNumber_sa, x_InvalidNumber_ga, x_InvalidNumber_gg, x_InvalidNumber_exC, x_InvalidNumber_tyC, x_InvalidNumber_kC, x_InvalidNumber_cl, x_InvalidNumber_gs, x_InvalidNumber_tk, x_InvalidNumber_mo⟩
    x_InvalidPath := ⟨x_InvalidPath_im, x_InvalidPath_ov, x_InvalidPath_hd, x_InvalidPath_sa, x_InvalidPath_ga, x_InvalidPath_gg, x_InvalidPath_exC, x_InvalidPath_tyC, x_InvalidPath_kC, x_InvalidPath_cl, x_InvalidPath_gs, x_InvalidPath_tk, x_InvalidPath_mo⟩
    x_LimitExceeded := ⟨x_LimitExceeded_im, x_LimitExceeded_ov, x_LimitExceeded_hd, x_LimitExceeded_sa, x_LimitExceeded_ga, x_LimitExceeded_gg, x_LimitExceeded_exC, x_LimitExceeded_tyC, x_LimitExceeded_kC, x_LimitExceeded_cl, x_LimitExceeded_gs, x_LimitExceeded_tk, x_LimitExceeded_mo⟩
    t_InvalidNumber := t_InvalidNumber
    t_InvalidPath := t_InvalidPath
    t_LimitExceeded := t_LimitExceeded
    n_InvalidNumber_value := n_InvalidNumber_value
    n_InvalidPath_value := n_InvalidPath_value
    n_LimitExceeded_limit := n_LimitExceeded_limit
    v_OverflowError := v_OverflowError
    s_PathError := s_PathError
    r_PathError := r_PathError
    v_PathError := v_PathError
    ko_InvalidPath_PathError := ko_InvalidPath_PathError
    ko_InvalidPath_ValueError := ko_InvalidPath_ValueError
    m_InvalidPath_InvalidPath := PySem.W.exm_ref x_InvalidPath_exC x_InvalidPath_hd x_InvalidPath_tyC sb_InvalidPath_InvalidPath }
  exact ⟨_, fun s v => .of_eq rfl, fun base _ _ => ok_law T⟩
end Pf
open PySem PySem.W PyProof.Rows
set_option maxRecDepth 100000 in
set_option maxHeartbeats 0 in
theorem PySem.Challenge.cw_walkshome_k01_path_validation_holds : PySem.Challenge.rw_walkshome_k01_path_validation.Holds := by
  w_on; o_law; k_head; (case hw => w_witness2)
  k_fill
  refine Hx.walkG (l := PySem.Challenge.rw_walkshome_k01_path_validation) (n := 63) (k := 10) (x := "_law_script") (CX := fun _ => L2.CX0) (sp := fun w => Pf.sp_law _) rfl (by decide) rfl ⟨rfl, by decide, by decide⟩ (fun w h Y => PySem.W.kIn_of Y) ?F (fun _ _ a ns hl _ hS => ⟨a, ns, rfl, hS, hl, fun _ => rfl⟩) (fun _ _ _ _ _ h => h)
  case F =>
    intro w mg fa h KX G hmg
    refine' Pf.all_mk KX G hmg ?a_law_take ?a_law_bent ?a_inverted ?a_is_integer ?a_split_core ?a_reduce_all ?a_is_path ?a_require_path ?a_reduced ?a_cyclic_parts ?a_power ?a_sort_key ?a_precedes ?a_is_reduced ?a_inverse ?a_law_asked ?a_law_said ?a_law_is_path ?a_law_right ?a_law_path ?a_law_pool ?a_law ?ac_InvalidNumber ?ac_InvalidPath ?ac_LimitExceeded ?ac_PathError ?i_InvalidNumber ?i_InvalidPath ?i_LimitExceeded ?l_law_take ?c_law_take ?k_law_take ?l_law_bent ?c_law_bent ?k_law_bent ?l_inverted ?c_inverted ?k_inverted ?l_LimitExceeded___init__ ?c_LimitExceeded___init__ ?k_LimitExceeded___init__ ?l_is_integer ?c_is_integer ?k_is_integer ?l_InvalidNumber___init__ ?c_InvalidNumber___init__ ?k_InvalidNumber___init__ ?l_split_core ?c_split_core ?k_split_core ?l_reduce_all ?c_reduce_all ?k_reduce_all ?l_is_path ?c_is_path ?k_is_path ?l_InvalidPath___init__ ?c_InvalidPath___init__ ?k_InvalidPath___init__ ?l_require_path ?c_require_path ?k_require_path ?l_reduced ?c_reduced ?k_reduced ?l_cyclic_parts ?c_cyclic_parts ?k_cyclic_parts ?l_power ?c_power ?k_power ?l_sort_key ?c_sort_key ?k_sort_key ?l_precedes ?c_precedes ?k_precedes ?l_is_reduced ?c_is_reduced ?k_is_reduced ?l_inverse ?c_inverse ?k_inverse ?l_law_asked ?c_law_asked ?k_law_asked ?l_law_said ?c_law_said ?k_law_said ?l_law_is_path ?c_law_is_path ?k_law_is_path ?l_law_right ?c_law_right ?k_law_right ?l_law_path ?c_law_path ?k_law_path ?l_law_pool ?c_law_pool ?k_law_pool ?l_law ?c_law ?k_law ?n_MAX_STEPS ?n_STEPS ?z_OverflowError ?z_ValueError ?z_all ?z_bool ?z_int ?z_isinstance ?z_len ?z_list ?z_max ?z_min ?z_range ?z_repr ?z_str ?x_InvalidNumber_im ?x_InvalidNumber_ov ?x_InvalidNumber_hd ?x_InvalidNumber_sa ?x_InvalidNumber_ga ?x_InvalidNumber_gg ?x_InvalidNumber_exC ?x_InvalidNumber_tyC ?x_InvalidNumber_kC ?x_InvalidNumber_cl ?x_InvalidNumber_gs ?x_InvalidNumber_tk ?x_InvalidNumber_mo ?x_InvalidPath_im ?x_InvalidPath_ov ?x_InvalidPath_hd ?x_InvalidPath_sa ?x_InvalidPath_ga ?x_InvalidPath_gg ?x_InvalidPath_exC ?x_InvalidPath_tyC ?x_InvalidPath_kC ?x_InvalidPath_cl ?x_InvalidPath_gs ?x_InvalidPath_tk ?x_InvalidPath_mo ?x_LimitExceeded_im ?x_LimitExceeded_ov ?x_LimitExceeded_hd ?x_LimitExceeded_sa ?x_LimitExceeded_ga ?x_LimitExceeded_gg ?x_LimitExceeded_exC ?x_LimitExceeded_tyC ?x_LimitExceeded_kC ?x_LimitExceeded_cl ?x_LimitExceeded_gs ?x_LimitExceeded_tk ?x_LimitExceeded_mo ?t_InvalidNumber ?t_InvalidPath ?t_LimitExceeded ?n_InvalidNumber_value ?n_InvalidPath_value ?n_LimitExceeded_limit ?v_OverflowError ?s_PathError ?r_PathError ?v_PathError ?ko_InvalidPath_PathError ?ko_InvalidPath_ValueError ?sb_InvalidPath_InvalidPath
    (case a_law_take => k_is)
    (case a_law_bent => k_is)
    (case a_inverted => k_is)
    (case a_is_integer => k_is)
    (case a_split_core => k_is)
    (case a_reduce_all => k_is)
    (case a_is_path => k_is)
    (case a_require_path => k_is)
    (case a_reduced => k_is)
    (case a_cyclic_parts => k_is)
    (case a_power => k_is)
    (case a_sort_key => k_is)
    (case a_precedes => k_is)
    (case a_is_reduced => k_is)
    (case a_inverse => k_is)
    (case a_law_asked => k_is)
    (case a_law_said => k_is)
    (case a_law_is_path => k_is)
    (case a_law_right => k_is)
    (case a_law_path => k_is)
    (case a_law_pool => k_is)
    (case a_law => k_is)
    (case ac_InvalidNumber => k_is)
    (case ac_InvalidPath => k_is)
    (case ac_LimitExceeded => k_is)
    (case ac_PathError => k_is)
    (case i_InvalidNumber => k_is)
    (case i_InvalidPath => k_is)
    (case i_LimitExceeded => k_is)
    (case l_law_take => k_is)
    (case c_law_take => k_is)
    (case k_law_take => k_is)
    (case l_law_bent => k_is)
    (case c_law_bent => k_is)
    (case k_law_bent => k_is)
    (case l_inverted => k_is)
    (case c_inverted => k_is)
    (case k_inverted => k_is)
    (case l_LimitExceeded___init__ => k_is)
    (case c_LimitExceeded___init__ => k_is)
    (case k_LimitExceeded___init__ => k_is)
    (case l_is_integer => k_is)
    (case c_is_integer => k_is)
    (case k_is_integer => k_is)
    (case l_InvalidNumber___init__ => k_is)
    (case c_InvalidNumber___init__ => k_is)
    (case k_InvalidNumber___init__ => k_is)
    (case l_split_core => k_is)
    (case c_split_core => k_is)
    (case k_split_core => k_is)
    (case l_reduce_all => k_is)
    (case c_reduce_all => k_is)
    (case k_reduce_all => k_is)
    (case l_is_path => k_is)
    (case c_is_path => k_is)
    (case k_is_path => k_is)
    (case l_InvalidPath___init__ => k_is)
    (case c_InvalidPath___init__ => k_is)
    (case k_InvalidPath___init__ => k_is)
    (case l_require_path => k_is)
    (case c_require_path => k_is)
    (case k_require_path => k_is)
    (case l_reduced => k_is)
    (case c_reduced => k_is)
    (case k_reduced => k_is)
    (case l_cyclic_parts => k_is)
    (case c_cyclic_parts => k_is)
    (case k_cyclic_parts => k_is)
    (case l_power => k_is)
    (case c_power => k_is)
    (case k_power => k_is)
    (case l_sort_key => k_is)
    (case c_sort_key => k_is)
    (case k_sort_key => k_is)
    (case l_precedes => k_is)
    (case c_precedes => k_is)
    (case k_precedes => k_is)
    (case l_is_reduced => k_is)
    (case c_is_reduced => k_is)
    (case k_is_reduced => k_is)
    (case l_inverse => k_is)
    (case c_inverse => k_is)
    (case k_inverse => k_is)
    (case l_law_asked => k_is)
    (case c_law_asked => k_is)
    (case k_law_asked => k_is)
    (case l_law_said => k_is)
    (case c_law_said => k_is)
    (case k_law_said => k_is)
    (case l_law_is_path => k_is)
    (case c_law_is_path => k_is)
    (case k_law_is_path => k_is)
    (case l_law_right => k_is)
    (case c_law_right => k_is)
    (case k_law_right => k_is)
    (case l_law_path => k_is)
    (case c_law_path => k_is)
    (case k_law_path => k_is)
    (case l_law_pool => k_is)
    (case c_law_pool => k_is)
    (case k_law_pool => k_is)
    (case l_law => k_is)
    (case c_law => k_is)
    (case k_law => k_is)
    (case n_MAX_STEPS => k_is)
    (case n_STEPS => k_is)
    (case z_OverflowError => k_is)
    (case z_ValueError => k_is)
    (case z_all => k_is)
    (case z_bool => k_is)
    (case z_int => k_is)
    (case z_isinstance => k_is)
    (case z_len => k_is)
    (case z_list => k_is)
    (case z_max => k_is)
    (case z_min => k_is)
    (case z_range => k_is)
    (case z_repr => k_is)
    (case z_str => k_is)
    (case x_InvalidNumber_im => kx_is; done)
    (case x_InvalidNumber_ov => kx_is; done)
    (case x_InvalidNumber_hd => k_is)
    (case x_InvalidNumber_sa => k_is)
    (case x_InvalidNumber_ga => k_is)
    (case x_InvalidNumber_gg => k_is)
    (case x_InvalidNumber_exC => k_is)
    (case x_InvalidNumber_tyC => k_is)
    (case x_InvalidNumber_kC => k_is)
    (case x_InvalidNumber_cl => k_is)
    (case x_InvalidNumber_gs => k_is)
    (case x_InvalidNumber_tk => k_is)
    (case x_InvalidNumber_mo => k_is)
    (case x_InvalidPath_im => kx_is; done)
    (case x_InvalidPath_ov => kx_is; done)
    (case x_InvalidPath_hd => k_is)
    (case x_InvalidPath_sa => k_is)
    (case x_InvalidPath_ga => k_is)
    (case x_InvalidPath_gg => k_is)
    (case x_InvalidPath_exC => k_is)
    (case x_InvalidPath_tyC => k_is)
    (case x_InvalidPath_kC => k_is)
    (case x_InvalidPath_cl => k_is)
    (case x_InvalidPath_gs => k_is)
    (case x_InvalidPath_tk => k_is)
    (case x_InvalidPath_mo => k_is)
    (case x_LimitExceeded_im => kx_is; done)
    (case x_LimitExceeded_ov => kx_is; done)
    (case x_LimitExceeded_hd => k_is)
    (case x_LimitExceeded_sa => k_is)
    (case x_LimitExceeded_ga => k_is)
    (case x_LimitExceeded_gg => k_is)
    (case x_LimitExceeded_exC => k_is)
    (case x_LimitExceeded_tyC => k_is)
    (case x_LimitExceeded_kC => k_is)
    (case x_LimitExceeded_cl => k_is)
    (case x_LimitExceeded_gs => k_is)
    (case x_LimitExceeded_tk => k_is)
    (case x_LimitExceeded_mo => k_is)
    (case t_InvalidNumber => k_is)
    (case t_InvalidPath => k_is)
    (case t_LimitExceeded => k_is)
    (case n_InvalidNumber_value => k_is)
    (case n_InvalidPath_value => k_is)
    (case n_LimitExceeded_limit => k_is)
    (case v_OverflowError => k_is)
    (case s_PathError => k_is)
    (case r_PathError => k_is)
    (case v_PathError => k_is)
    (case ko_InvalidPath_PathError => kit_is)
    (case ko_InvalidPath_ValueError => kit_is)
    (case sb_InvalidPath_InvalidPath => k_is)
#print axioms PySem.Challenge.cw_walkshome_k01_path_validation_holds
