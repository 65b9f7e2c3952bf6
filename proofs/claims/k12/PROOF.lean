import PyProof.Rows.All
import Wide.All
import OpenK.AllK
import Wide.FinOn
import HandS.ForMost
import HandS.ForExc
import HandS.Walk
import HandS.IsInst
import HandS.StrMore
import HandS.Flow
import HandS.Style
import HandS.RaiseMore
import HandS.TupLe
import HandS.Deep
import HandS.Replace
import KE.LtData
import HandS.Words
import HandS.WordsExc
import HandS.Ends
import HandS.Text
import HandS.ExcInit
import HandS.ExcField
import HandS.TryMany
import KE.KExcInit
import KE.KExcIs
import KE.KExcLine
import KE.RegKIsAll
import HandS.ExcIs
import OpenK.KCls
import KE.GoesMore
import PyProof.EnumMake
import PyProof.ListStr
import HandS.Defaults
import KE.DataEq
import KE.KUnpackStar
import HandS.Conv
import HandS.TupLen
import PySem.Challenge.RW_walkshome_k12_steps_lead_there_and_back
set_option Elab.async false
set_option linter.all false
set_option maxRecDepth 100000
set_option maxHeartbeats 4000000
namespace Hx
open PySem PySem.Spec PyProof.Rows L2
/-! ## heaps -/
section
variable {H H1 H2 : Hp} {a p : Addr} {o u : HO} {K : PySem.W.Frag} {xs : List V}
theorem u_old (np : H p = none) (h : H a = some o) : upd H p u a = some o := by rw [upd_ne (ne_of_none h np)]; exact h
theorem u_oth (ne : a ≠ p) (h : H a = some o) : upd H p u a = some o := by rw [upd_ne ne]; exact h
theorem u_oth' (ne : p ≠ a) (h : H a = some o) : upd H p u a = some o := u_oth ne.symm h
theorem s_new (e : Same H H1) (np : H1 p = none) : Same H (upd H1 p u) := fun b x q => u_old np (e b x q)
theorem s_mut (e : Same H H1) (np : H p = none) : Same H (upd H1 p u) := fun b x q => by rw [upd_ne (ne_of_none q np)]; exact e b x q
theorem sq_of (h : H a = some (.lst xs)) : SqL K H a xs := .inl (.inl h)
theorem st_of (h : H a = some (.tup xs)) : SqT K H a xs := .inl (.inl h)
theorem sq_same (e : Same H H1) (h : SqL K H a xs) : SqL K H1 a xs := e.seq h
theorem sq_old (np : H p = none) (h : SqL K H a xs) : SqL K (upd H p u) a xs := (s_new (Same.refl H) np).seq h
theorem sq_oth (ne : a ≠ p) (h : SqL K H a xs) : SqL K (upd H p u) a xs := by
  rcases h with (h | ⟨o, h⟩) | h
  · exact .inl (.inl (u_oth ne h))
  · exact .inl (.inr ⟨o, u_oth ne h⟩)
  · exact .inr h
theorem f_same (e : Same H H1) (h : H1 p = none) : H p = none := e.free h
theorem f_upd (h : upd H p u a = none) : H a = none := by
  by_cases e : a = p
  · subst e; rw [upd_same] at h; cases h
  · rw [upd_ne e] at h; exact h
theorem n_upd (h : upd H p u a = none) : a ≠ p := fun e => by subst e; rw [upd_same] at h; cases h
theorem f_u2 {p2 : Addr} {u2 : HO} (h : upd (upd H p u) p2 u2 a = none) : H a = none := f_upd (f_upd h)
theorem f_u3 {p2 p3 : Addr} {u2 u3 : HO} (h : upd (upd (upd H p u) p2 u2) p3 u3 a = none) : H a = none := f_upd (f_u2 h)
theorem f_u4 {p2 p3 p4 : Addr} {u2 u3 u4 : HO} (h : upd (upd (upd (upd H p u) p2 u2) p3 u3) p4 u4 a = none) : H a = none := f_upd (f_u3 h)
theorem f_u5 {p2 p3 p4 p5 : Addr} {u2 u3 u4 u5 : HO} (h : upd (upd (upd (upd (upd H p u) p2 u2) p3 u3) p4 u4) p5 u5 a = none) : H a = none := f_upd (f_u4 h)
theorem f_u6 {p2 p3 p4 p5 p6 : Addr} {u2 u3 u4 u5 u6 : HO} (h : upd (upd (upd (upd (upd (upd H p u) p2 u2) p3 u3) p4 u4) p5 u5) p6 u6 a = none) : H a = none := f_upd (f_u5 h)
theorem n_u2 {p2 : Addr} {u2 : HO} (h : upd (upd H p u) p2 u2 a = none) : a ≠ p := fun e => by subst e; have := f_upd h; rw [upd_same] at this; cases this
theorem n_u3 {p2 p3 : Addr} {u2 u3 : HO} (h : upd (upd (upd H p u) p2 u2) p3 u3 a = none) : a ≠ p := n_u2 (f_upd h)
theorem n_u4 {p2 p3 p4 : Addr} {u2 u3 u4 : HO} (h : upd (upd (upd (upd H p u) p2 u2) p3 u3) p4 u4 a = none) : a ≠ p := n_u3 (f_upd h)
theorem n_u5 {p2 p3 p4 p5 : Addr} {u2 u3 u4 u5 : HO} (h : upd (upd (upd (upd (upd H p u) p2 u2) p3 u3) p4 u4) p5 u5 a = none) : a ≠ p := n_u4 (f_upd h)
theorem n_at (h : H p = some o) (n : H a = none) : a ≠ p := fun e => by rw [e, h] at n; cases n
theorem f_new (ne : a ≠ p) (h : H a = none) : upd H p u a = none := by rw [upd_ne ne]; exact h
/-- all but p is kept -/
def But (p : Addr) (H H' : Hp) : Prop := ∀ b o, b ≠ p → H b = some o → H' b = some o
theorem But.refl (p : Addr) (H : Hp) : But p H H := fun _ _ _ h => h
theorem But.of (e : Same H H1) : But p H H1 := fun b o _ h => e b o h
theorem But.trans (e : But p H H1) (f : But p H1 H2) : But p H H2 := fun b o n h => f b o n (e b o n h)
theorem But.new {q : Addr} (e : But p H H1) (nq : H1 q = none) : But p H (upd H1 q u) := fun b o n h => u_old nq (e b o n h)
theorem But.mut {q : Addr} (e : But p H H1) (nq : H q = none) : But p H (upd H1 q u) := fun b o n h => by rw [upd_ne (ne_of_none h nq)]; exact e b o n h
theorem But.own (e : But p H H1) : But p H (upd H1 p u) := fun b o n h => by rw [upd_ne n]; exact e b o n h
theorem But.seq (e : But p H H1) (n : a ≠ p) (h : SqL K H a xs) : SqL K H1 a xs := by
  rcases h with (h | ⟨o, h⟩) | h
  · exact .inl (.inl (e _ _ n h))
  · exact .inl (.inr ⟨o, e _ _ n h⟩)
  · exact .inr h
/-- behind But p, what was p's is new: But p becomes Same where p is new -/
theorem But.same (e : But p H1 H2) (f : Same H H1) (np : H p = none) : Same H H2 := fun b o h => e b o (ne_of_none h np) (f b o h)
theorem But.free (e : But p H H1) {b : Addr} (n : b ≠ p) (h : H1 b = none) : H b = none := by
  cases q : H b with
  | none => rfl
  | some o => rw [e b o n q] at h; cases h
end
/-! ## readings -/
section
variable {σ : L2.St} {H : Hp} {Q : VK} {v x y z : V} {ta tb te tc : TE} {D : Ends} {t u : TS} {c d : TT} {K : PySem.W.Frag} {p a : Addr} {i j : Int} {k : Nat} {xs : List V} {B : Bool → Hp → Prop} {QA : List V → Hp → Prop} {r : R2}
theorem g_var (e : σ[k]? = some (some v)) (q : Q v H) : tVar k σ H Q := ⟨v, e, q⟩
theorem g_c (q : Q v H) : tC v σ H Q := q
theorem g_op (q : ta σ H fun x H1 => tb σ H1 fun y H2 => r x y H2 Q) : tOp r ta tb σ H Q := q
theorem g_un {r : V → Hp → VK → Prop} (q : ta σ H fun x H1 => r x H1 Q) : tUn r ta σ H Q := q
theorem g_seq (q : t { D with nx := u D } σ H) : tSeq t u D σ H := q
theorem g_next (q : D.nx σ H) : tNext D σ H := q
theorem g_brk (q : D.bk σ H) : tBreak D σ H := q
theorem g_cont (q : D.ct σ H) : tCont D σ H := q
theorem g_asg {g : TG} (q : te σ H fun x H1 => g x σ H1 D.nx) : tAsg te g D σ H := q
theorem g_name {Q : L2.St → Hp → Prop} (q : Q (σ.set k (some v)) H) : gName k v σ H Q := q
theorem g_drop (q : te σ H fun _ H1 => D.nx σ H1) : tDrop te D σ H := q
theorem g_ret (q : te σ H D.rt) : tRet te D σ H := q
theorem g_retN (q : D.rt .non H) : tRetN D σ H := q
theorem g_ifS (q : c σ H fun b H1 => if b = true then t D σ H1 else u D σ H1) : tIfS c t u D σ H := q
theorem g_if (q : c σ H fun b H1 => if b = true then ta σ H1 Q else tb σ H1 Q) : tIf c ta tb σ H Q := q
theorem g_test (q : te σ H fun x H' => ∃ k, x = .bl k ∧ B k H') : tTest te σ H B := q
theorem g_tB (q : te σ H fun x H' => ∃ k, x = .bl k ∧ B k H') : tB te σ H B := q
theorem g_exb {b : Bool} {P : Bool → Prop} (q : P b) : ∃ k, V.bl b = .bl k ∧ P k := ⟨b, rfl, q⟩
theorem g_and (q : c σ H fun b H1 => if b = true then d σ H1 B else B false H1) : tAnd c d σ H B := q
theorem g_or (q : c σ H fun b H1 => if b = true then B true H1 else d σ H1 B) : tOr c d σ H B := q
theorem g_not (q : c σ H fun b H1 => B (!b) H1) : tNot c σ H B := q
theorem g_andV (q : ta σ H fun x H1 => ∃ c, x = .bl c ∧ if c = true then tb σ H1 Q else Q (.bl false) H1) : tAndV ta tb σ H Q := q
theorem g_orV (q : ta σ H fun x H1 => ∃ c, x = .bl c ∧ if c = true then Q (.bl true) H1 else tb σ H1 Q) : tOrV ta tb σ H Q := q
theorem g_notV (q : ta σ H fun x H1 => ∃ c, x = .bl c ∧ Q (.bl (!c)) H1) : tNotV ta σ H Q := q
theorem g_nil (q : QA [] H) : tNil σ H QA := q
theorem g_cons {tr : TA} (q : ta σ H fun x H1 => tr σ H1 fun xs H2 => QA (x :: xs) H2) : tCons ta tr σ H QA := q
theorem g_tup {t : TA} (q : t σ H fun xs H1 => xs.length ≤ sizeLine ∧ ∀ p, H1 p = none → Q (.ref p) (upd H1 p (.tup xs))) : tTup t σ H Q := q
theorem g_lst {t : TA} (q : t σ H fun xs H1 => xs.length ≤ sizeLine ∧ ∀ p, H1 p = none → Q (.ref p) (upd H1 p (.lst xs))) : tLst t σ H Q := q
theorem g_sz {R : Prop} (h : xs.length ≤ 1000) (q : R) : xs.length ≤ sizeLine ∧ R := ⟨Nat.le_trans h (by decide), q⟩
theorem g_call {sp : Sp} {dvs : List V} {E : XK} {t : TA} (q : t σ H fun vs H1 => sp (vs ++ dvs) H1 Q E) : tCall sp dvs E t σ H Q := q
theorem g_callK {sp : Sp} {gV} {E : XK} {t tk : TA} (q : t σ H fun vs H1 => tk σ H1 fun zs H2 => sp (gV vs zs) H2 Q E) : tCallK sp gV E t tk σ H Q := q
theorem g_CB {r : List V → Hp → VK → Prop} {t : TA} (q : t σ H fun vs H1 => r vs H1 Q) : tCB r t σ H Q := q
theorem g_chain {r r' : R2} (q : ta σ H fun x H1 => tb σ H1 fun y H2 => r x y H2 fun z H3 => ∃ k, z = .bl k ∧ (if k = true then tc σ H3 fun w' H4 => r' y w' H4 Q else Q (.bl false) H3)) : tChain r r' ta tb tc σ H Q := q
theorem g_sl {r} {tl th : TO} (q : te σ H fun x H1 => tl σ H1 fun l H2 => th σ H2 fun u H3 => r x l u H3 Q) : tSl r te tl th σ H Q := q
theorem g_nopart {QO : Option Int → Hp → Prop} (q : QO none H) : tNoPart σ H QO := q
theorem g_part {QO : Option Int → Hp → Prop} (q : te σ H fun x H1 => ∃ i, x = .int i ∧ QO (some i) H1) : tPart te σ H QO := q
theorem g_exi {P : Int → Prop} (q : P i) : ∃ k, V.int i = .int k ∧ P k := ⟨i, rfl, q⟩
theorem g_bm {T : String} {r} {to : TE} {t : TA} (q : to σ H fun x H1 => tyV K T x H1 ∧ t σ H1 fun xs H2 => r x xs H2 Q) : tBM K T r to t σ H Q := q
theorem g_bm0 {T : String} {r} {to : TE} (q : to σ H fun x H1 => tyV K T x H1 ∧ r x [] H1 Q) : tBM0 K T r to σ H Q := q
theorem g_m0 {r} {to : TE} (q : to σ H fun x H1 => (∃ a, x = .str a) ∧ r x [] H1 Q) : tM0 r to σ H Q := q
theorem g_m1 {r} {to te : TE} (q : to σ H fun x H1 => (∃ a, x = .str a) ∧ te σ H1 fun y H2 => r x [y] H2 Q) : tM1 r to te σ H Q := q
theorem g_exs {s : Str} {R : Prop} (q : R) : (∃ a, V.str s = .str a) ∧ R := ⟨⟨s, rfl⟩, q⟩
theorem g_tyS {s : Str} {R : Prop} (q : R) : tyV K "str" (.str s) H ∧ R := ⟨rfl, q⟩
theorem g_tyL {R : Prop} (h : SqL K H p xs) (q : R) : tyV K "list" (.ref p) H ∧ R := ⟨Or.inl ⟨rfl, _, h⟩, q⟩
theorem g_fld {f : Str} (q : ta σ H fun x H1 => ∃ a C dx fs v, x = .ref a ∧ H1 a = some (.ins C dx fs) ∧ Cls K C ∧ NoAttr K C f ∧ fs.lookup f = some v ∧ Q v H1) : tFld K ta f σ H Q := q
theorem g_meth {C : Addr} {m : Str} {sp : Sp} {dvs : List V} {E : XK} {t : TA} (q : ta σ H fun x H1 => ∃ a dx fs, x = .ref a ∧ H1 a = some (.ins C dx fs) ∧ fs.lookup m = none ∧ t σ H1 fun vs H2 => sp (x :: (vs ++ dvs)) H2 Q E) : tMeth C m sp dvs E ta t σ H Q := q
theorem g_for {wi : TI} {g : TG} {tb : TS} (q : wi σ H fun J H1 => ∃ W : Nat → Nat → L2.St → Hp → Prop, (∃ m, W 0 m σ H1) ∧ ∀ i m σ H, W i m σ H →
      (J.stop i H ∧ D.nx σ H) ∨ (J.go i H ∧ ∃ N : L2.St → Hp → Prop, (∀ σ' H', N σ' H' → ∃ m', m' < m ∧ W (i + 1) m' σ' H') ∧ ∀ x H', J.yld i H x H' → g x σ H' fun σ2 H2 => tb { D with nx := N, ct := N, bk := D.nx } σ2 H2)) : tFor wi g tb D σ H := q
theorem g_lc {wi : TI} {g : TG} {tt : TT} {vs : List Nat} (q : wi σ H fun J H1 => ∀ D, H1 D = none → ∃ W : Nat → Nat → Hp → Prop, (∃ m, W 0 m (upd H1 D (.lst []))) ∧ ∀ i m H, W i m H →
  (J.stop i H ∧ Q (.ref D) H) ∨ (J.go i H ∧ ∃ Nx : Hp → Prop, (∀ H', Nx H' → ∃ m', m' < m ∧ W (i + 1) m' H') ∧ ∀ x H', J.yld i H x H' → g x (wipe σ vs) H' fun σ2 H2 => wipe σ2 vs = wipe σ vs ∧ tt σ2 H2 fun b H3 =>
    if b = true then te σ2 H3 fun y H4 => ∃ acc, H4 D = some (.lst acc) ∧ acc.length < sizeLine ∧ Nx (upd H4 D (.lst (acc ++ [y]))) else Nx H3)) : tLc wi g tt te vs σ H Q := q
theorem g_yes {P : Bool → Hp → Prop} (q : P true H) : tYes σ H P := q
theorem g_aug {ti : TIp} (e : σ[k]? = some (some x)) (q : te σ H fun y H1 => ti x y H1 fun z H2 => D.nx (σ.set k (some z)) H2) : tAug k te ti D σ H := ⟨x, e, q⟩
theorem g_ipI {f : Int → Int → Int} (q : Q (.int (f i j)) H) : ipI f (.int i) (.int j) H Q := ⟨i, j, rfl, rfl, q⟩
/-! sources -/
variable {R : It → Hp → Prop}
theorem g_iList (q : ta σ H fun x H1 => ∃ a, x = .ref a ∧ (∃ xs, SqL K H1 a xs) ∧ R (Itl K a) H1) : iList K ta σ H R := q
theorem g_srcL {P : Addr → Prop} (h : SqL K H a xs) (q : P a) : ∃ a', V.ref a = .ref a' ∧ (∃ xs, SqL K H a' xs) ∧ P a' := ⟨a, rfl, ⟨xs, h⟩, q⟩
theorem g_iStr (q : ta σ H fun v H1 => ∃ x, v = .str x ∧ R (Its x) H1) : iStr ta σ H R := q
theorem g_exstr {s : Str} {P : Str → Prop} (q : P s) : ∃ x, V.str s = .str x ∧ P x := ⟨s, rfl, q⟩
theorem g_iRng1 {t : TA} (q : t σ H fun vs H1 => ∃ j : Int, vs = [.int j] ∧ -(2 ^ 62) ≤ j ∧ j < 2 ^ 62 ∧ R (Itr 0 j.toNat) H1) : iRng1 t σ H R := q
theorem g_srcR {j : Int} {P : Int → Prop} (h : -1000000000 ≤ j ∧ j ≤ 1000000000) (q : P j) : ∃ j' : Int, [V.int j] = [.int j'] ∧ -(2 ^ 62) ≤ j' ∧ j' < 2 ^ 62 ∧ P j' := ⟨j, rfl, by omega, by omega, q⟩
/-! ## operators by values -/
theorem g_rI0 {g : Int → Int → V} (q : Q (g i j) H) : rI0 g (.int i) (.int j) H Q := ⟨i, j, rfl, rfl, q⟩
theorem g_rU {g : Int → V} (q : Q (g i) H) : rU g (.int i) H Q := ⟨i, rfl, q⟩
theorem g_rI {C : Int → Int → Prop} {g : Int → Int → V} (c : C i j) (q : Q (g i j) H) : rI C g (.int i) (.int j) H Q := ⟨i, j, rfl, rfl, c, q⟩
def rAddU : R2 := fun x y H Q => rI0 (fun i j => .int (i + j)) x y H Q ∨ ((∃ i j, x = .str i ∧ y = .str j ∧ i.length + j.length ≤ sizeLine ∧ Q (.str (i ++ j)) H) ∨ rCat x y H Q)
theorem op_addU {X : Cx} : OpR X (binaryOp .Add) rAddU := op_add.or (op_add_str.or op_cat)
theorem g_addI (q : Q (.int (i + j)) H) : rAddU (.int i) (.int j) H Q := .inl ⟨i, j, rfl, rfl, q⟩
theorem g_addS {a b : Str} (h : a.length + b.length ≤ sizeLine) (q : Q (.str (a ++ b)) H) : rAddU (.str a) (.str b) H Q := .inr (.inl ⟨a, b, rfl, rfl, h, q⟩)
theorem g_addL {l b : Addr} {xs zs : List V} (h1 : H l = some (.lst xs)) (h2 : H b = some (.lst zs)) (h : xs.length + zs.length ≤ sizeLine) (q : ∀ p, H p = none → Q (.ref p) (upd H p (.lst (xs ++ zs)))) : rAddU (.ref l) (.ref b) H Q :=
  .inr (.inr ⟨l, b, xs, zs, rfl, rfl, h1, h2, h, q⟩)
theorem g_mul (c : CMul i j) (q : Q (.int (i * j)) H) : rI CMul (fun i j => .int (i * j)) (.int i) (.int j) H Q := ⟨i, j, rfl, rfl, c, q⟩
theorem g_mod (c : 0 < j) (q : Q (.int (i % j)) H) : rI (fun _ j => 0 < j) (fun i j => .int (i % j)) (.int i) (.int j) H Q := ⟨i, j, rfl, rfl, c, q⟩
theorem g_div (c : CDiv i j) (q : Q (.int (i / j)) H) : rI CDiv (fun i j => .int (i / j)) (.int i) (.int j) H Q := ⟨i, j, rfl, rfl, c, q⟩
theorem g_pow (c : CPow i j) (q : Q (.int (i ^ j.toNat)) H) : rI CPow (fun i j => .int (i ^ j.toNat)) (.int i) (.int j) H Q := ⟨i, j, rfl, rfl, c, q⟩
theorem g_eqS (h : scal x y = true) (q : Q (.bl (decide (x = y))) H) : rEq x y H Q := ⟨h, q⟩
theorem g_neS (h : scal x y = true) (q : Q (.bl (!decide (x = y))) H) : rNe x y H Q := ⟨h, q⟩
/-! items: a list, a tuple, a text -/
theorem g_ixL (h : SqL K H p xs) (e : atI xs i = some v) (q : Q v H) : rIx K (.ref p) (.int i) H Q := .inl ⟨p, xs, i, v, rfl, rfl, h, e, q⟩
theorem g_ixT (h : SqT K H p xs) (e : atI xs i = some v) (q : Q v H) : rIx K (.ref p) (.int i) H Q := .inr (.inl ⟨p, xs, i, v, rfl, rfl, h, e, q⟩)
theorem g_ixS {s : Str} {n : Nat} (hl : s.length ≤ sizeLine) (e : atI s.cps.toList i = some n) (q : Q (.str ⟨#[n]⟩) H) : rIx K (.str s) (.int i) H Q := .inr (.inr ⟨s, i, n, rfl, rfl, hl, e, q⟩)
/-! slices: a list, a text -/
def rSlU (K : PySem.W.Frag) : V → Option Int → Option Int → Hp → VK → Prop := fun x lo hi H Q => rSlL K x lo hi H Q ∨ rSlS x lo hi H Q
theorem sl_U {X : Cx} : SlR X (rSlU X.K) := sl_list.or sl_str
theorem g_slL {lo hi : Option Int} (h : SqL K H a xs) (q : ∀ p, H p = none → Q (.ref p) (upd H p (.lst (cutV xs lo hi)))) : rSlU K (.ref a) lo hi H Q := .inl ⟨a, xs, rfl, h, q⟩
theorem g_slS {lo hi : Option Int} {z : Str} (h : z.length ≤ sizeLine) (q : Q (.str (cutS z lo hi)) H) : rSlU K (.str z) lo hi H Q := .inr ⟨z, rfl, h, q⟩
/-! tests -/
theorem g_nT {A B : Prop} (q : B) : if (!true) = true then A else B := q
theorem g_nF {A B : Prop} (q : A) : if (!false) = true then A else B := q
theorem g_yesD {P : Prop} [Decidable P] {A B : Prop} (h : P) (q : A) : if decide P = true then A else B := by rw [if_pos (decide_eq_true h)]; exact q
theorem g_noD {P : Prop} [Decidable P] {A B : Prop} (h : ¬P) (q : B) : if decide P = true then A else B := by rw [if_neg (by simp [h])]; exact q
theorem g_byD {P : Prop} [Decidable P] {A B : Prop} (h1 : P → A) (h2 : ¬P → B) : if decide P = true then A else B := by
  by_cases h : P
  · exact g_yesD h (h1 h)
  · exact g_noD h (h2 h)
theorem g_byN {P : Prop} [Decidable P] {A B : Prop} (h1 : ¬P → A) (h2 : P → B) : if (!decide P) = true then A else B := by
  by_cases h : P
  · rw [if_neg (by simp [h])]; exact h2 h
  · rw [if_pos (by simp [h])]; exact h1 h
theorem g_by {b : Bool} {A B : Prop} (h1 : b = true → A) (h2 : b = false → B) : if b = true then A else B := by
  cases b
  · exact iteF (h2 rfl)
  · exact iteT (h1 rfl)
end
end Hx
namespace Hx
open PySem PySem.Spec PyProof.Rows L2
/-! ## further rules -/
section
variable {X : Cx} {σ : L2.St} {H : Hp} {Q : VK} {K : PySem.W.Frag} {v x y : V} {p a b : Addr} {i j : Int} {xs ys : List V} {z : Str}
theorem pe_gS {n s : Str} {pos : Pos} (h : ∃ t, X.mg n = some (.str s t)) (hg : Gl X n := by rfl) (hd : (n == ("__debug__" : Str)) = false := by decide) : PE X (.Name n pos) (tC (.str s)) := by
  obtain ⟨t, h⟩ := h
  exact pe_glob hg h ⟨t, rfl⟩ hd
theorem pe_gI {n : Str} {i : Int} {pos : Pos} (h : ∃ t, X.mg n = some (.int i t)) (hg : Gl X n := by rfl) (hd : (n == ("__debug__" : Str)) = false := by decide) : PE X (.Name n pos) (tC (.int i)) := by
  obtain ⟨t, h⟩ := h
  exact pe_glob hg h ⟨t, rfl⟩ hd
/-! len -/
def rLenU (K : PySem.W.Frag) : List V → Hp → VK → Prop := fun xs H Q => ∃ x n, xs = [x] ∧ LenV K x H n ∧ Q (.int n) H
theorem call_lenU : CallR X (.builtin "len") (rLenU X.K) := call_len
theorem g_lenS (h : z.length ≤ sizeLine) (q : Q (.int (z.length : Nat)) H) : rLenU K [.str z] H Q := ⟨.str z, _, rfl, ⟨h, rfl⟩, q⟩
theorem g_lenL (h : SqL K H a xs) (q : Q (.int (xs.length : Nat)) H) : rLenU K [.ref a] H Q := ⟨.ref a, _, rfl, .inl ⟨_, h, rfl⟩, q⟩
theorem g_lenT (h : SqT K H a xs) (q : Q (.int (xs.length : Nat)) H) : rLenU K [.ref a] H Q := ⟨.ref a, _, rfl, .inr ⟨_, h, rfl⟩, q⟩
/-! max, min of two ints, all, any -/
def rMaxU (K : PySem.W.Frag) : List V → Hp → VK → Prop := fun xs H Q => (∃ i j, xs = [.int i, .int j] ∧ Q (.int (if j > i then j else i)) H) ∨ rMax K xs H Q
theorem call_maxU (hc : X.calm = true) : CallR X (.builtin "max") (rMaxU X.K) := (call_max2 hc).or (cr_max hc)
theorem g_max2 (q : Q (.int (max i j)) H) : rMaxU K [.int i, .int j] H Q := .inl ⟨i, j, rfl, by
  have e : (if j > i then j else i) = max i j := by split <;> omega
  rw [e]; exact q⟩
def rMinU (K : PySem.W.Frag) : List V → Hp → VK → Prop := fun xs H Q => (∃ i j, xs = [.int i, .int j] ∧ Q (.int (if j < i then j else i)) H) ∨ rMin K xs H Q
theorem call_minU (hc : X.calm = true) : CallR X (.builtin "min") (rMinU X.K) := (call_min2 hc).or (cr_min hc)
theorem g_min2 (q : Q (.int (min i j)) H) : rMinU K [.int i, .int j] H Q := .inl ⟨i, j, rfl, by
  have e : (if j < i then j else i) = min i j := by split <;> omega
  rw [e]; exact q⟩
def rInt1 : List V → Hp → VK → Prop := fun xs H Q => (∃ i, xs = [.int i] ∧ Q (.int i) H) ∨ ∃ k, xs = [.bl k] ∧ Q (.int (if k then 1 else 0)) H
theorem call_int1U : CallR X (.type "int") rInt1 := call_int1
theorem g_intB {k : Bool} (q : Q (.int (if k then 1 else 0)) H) : rInt1 [.bl k] H Q := .inr ⟨k, rfl, q⟩
theorem g_all {bs : List Bool} (h : SqL K H a (bs.map V.bl)) (q : Q (.bl (bs.all id)) H) : rAll K [.ref a] H Q := ⟨a, bs, rfl, h, q⟩
theorem g_any {bs : List Bool} (h : SqL K H a (bs.map V.bl)) (q : Q (.bl (bs.any id)) H) : rAny K [.ref a] H Q := ⟨a, bs, rfl, h, q⟩
/-! isinstance -/
def rIsiU (K : PySem.W.Frag) : List V → Hp → VK → Prop := fun xs H Q => rIsi K xs H Q ∨ rIsiT K xs H Q
theorem call_isiU : CallR X (.builtin "isinstance") (rIsiU X.K) := call_isi.or call_isiT
theorem g_isi {c : V} {t u : Value} {k : Bool} (hc : ClsV c u) (ht : TyX K H x t) (e : PySem.W.kitOne K t u = some k) (q : Q (.bl k) H) : rIsiU K [x, c] H Q := .inl ⟨x, c, t, u, k, rfl, hc, ht, e, q⟩
theorem g_isiT {cs : List V} {t : Value} {us : List Value} {k : Bool} (h : H p = some (.tup cs)) (hc : Paired ClsV cs us) (ht : TyX K H x t) (e : PySem.W.kitAny K t us = some k) (q : Q (.bl k) H) : rIsiU K [x, .ref p] H Q := .inr ⟨x, p, cs, t, us, k, rfl, h, hc, ht, e, q⟩
/-! repr of an int, a bool -/
def rReprU : List V → Hp → VK → Prop := fun xs H Q => (∃ i, xs = [.int i] ∧ i.natAbs.log2 < 1920 ∧ Q (.str (toString i)) H) ∨ ∃ k : Bool, xs = [.bl k] ∧ Q (.str (if k then "True" else "False")) H
theorem call_repr_bool : CallR X (.builtin "repr") (fun xs H Q => ∃ k : Bool, xs = [.bl k] ∧ Q (.str (if k then "True" else "False")) H) := by
  intro pins s σ H xs us Q I r h
  obtain ⟨k, rfl, q⟩ := h
  obtain ⟨u, rfl, ru⟩ := vals1 r
  cases (show u = Value.bool k from ru)
  exact PySem.P.repr_of_bool ⟨.str _, H, I.tok _, ⟨_, rfl⟩, q⟩
theorem call_reprU : CallR X (.builtin "repr") rReprU := SkE.call_repr_int.or call_repr_bool
theorem g_reprB {k : Bool} (q : Q (.str (if k then "True" else "False")) H) : rReprU [.bl k] H Q := .inr ⟨k, rfl, q⟩
/-! == and <, of any data -/
def rEqU (K : PySem.W.Frag) : R2 := fun x y H Q => rEq x y H Q ∨ rEqD K x y H Q
theorem op_eqU (hu : X.A.units + 64 < cLine) : OpR X (compareOp .Eq) (rEqU X.K) := op_eq.or (op_eqD hu)
def rNeU (K : PySem.W.Frag) : R2 := fun x y H Q => rNe x y H Q ∨ rNeD K x y H Q
theorem op_neU (hu : X.A.units + 64 < cLine) : OpR X (compareOp .NotEq) (rNeU X.K) := op_ne.or (op_neD hu)
theorem g_eqU (h : scal x y = true) (q : Q (.bl (decide (x = y))) H) : rEqU K x y H Q := .inl ⟨h, q⟩
theorem g_neU (h : scal x y = true) (q : Q (.bl (!decide (x = y))) H) : rNeU K x y H Q := .inl ⟨h, q⟩
theorem g_eqI (q : Q (.bl (decide (i = j))) H) : rEqU K (.int i) (.int j) H Q := .inl ⟨rfl, by rw [decide_eq_decide.mpr (show V.int i = V.int j ↔ i = j from ⟨V.int.inj, congrArg _⟩)]; exact q⟩
theorem g_neI (q : Q (.bl (!decide (i = j))) H) : rNeU K (.int i) (.int j) H Q := .inl ⟨rfl, by rw [decide_eq_decide.mpr (show V.int i = V.int j ↔ i = j from ⟨V.int.inj, congrArg _⟩)]; exact q⟩
theorem g_eqS2 {s z : Str} (q : Q (.bl (decide (s = z))) H) : rEqU K (.str s) (.str z) H Q := .inl ⟨rfl, by rw [decide_eq_decide.mpr (show V.str s = V.str z ↔ s = z from ⟨V.str.inj, congrArg _⟩)]; exact q⟩
theorem g_neS2 {s z : Str} (q : Q (.bl (!decide (s = z))) H) : rNeU K (.str s) (.str z) H Q := .inl ⟨rfl, by rw [decide_eq_decide.mpr (show V.str s = V.str z ↔ s = z from ⟨V.str.inj, congrArg _⟩)]; exact q⟩
theorem g_eqB {s z : Bool} (q : Q (.bl (decide (s = z))) H) : rEqU K (.bl s) (.bl z) H Q := .inl ⟨rfl, by rw [decide_eq_decide.mpr (show V.bl s = V.bl z ↔ s = z from ⟨V.bl.inj, congrArg _⟩)]; exact q⟩
theorem g_neB {s z : Bool} (q : Q (.bl (!decide (s = z))) H) : rNeU K (.bl s) (.bl z) H Q := .inl ⟨rfl, by rw [decide_eq_decide.mpr (show V.bl s = V.bl z ↔ s = z from ⟨V.bl.inj, congrArg _⟩)]; exact q⟩
theorem g_eqD {d e : PyData} (hd : Dp K H x d) (he : Dp K H y e) (sd : SeqAt.shaped d = true) (se : SeqAt.shaped e = true) (q : Q (.bl (PyData.eqv d e)) H) : rEqU K x y H Q := .inr ⟨d, e, hd, he, sd, se, q⟩
theorem g_neD {d e : PyData} (hd : Dp K H x d) (he : Dp K H y e) (sd : SeqAt.shaped d = true) (se : SeqAt.shaped e = true) (q : Q (.bl (!PyData.eqv d e)) H) : rNeU K x y H Q := .inr ⟨d, e, hd, he, sd, se, q⟩
def rLtD (K : PySem.W.Frag) : R2 := fun x y H Q => ∃ d e, Dp K H x d ∧ Dp K H y e ∧ PySem.W.alike d e = true ∧ d ≠ .none ∧ d.depth ≤ 60 ∧ Q (.bl (PySem.W.dataLt d e)) H
theorem op_ltD (hu : X.A.units + 64 < cLine) : OpR X (compareOp .Lt) (rLtD X.K) := by
  intro pins s σ H x y v u Q I rx ry h
  obtain ⟨d, e, hd, he, al, nn, dp, q⟩ := h
  obtain ⟨as, r1⟩ := Dp.reads I d x v hd rx
  obtain ⟨bs, r2⟩ := Dp.reads I e y u he ry
  exact PySem.W.rcLt_alike d e _ _ _ _ _ _ r1 r2 al nn (by omega) _ _ _ _ ⟨.bl _, H, I, rfl, q⟩
def rLtU (K : PySem.W.Frag) : R2 := fun x y H Q => rI0 (fun i j => .bl (decide (i < j))) x y H Q ∨ rLtD K x y H Q
theorem op_ltU (hu : X.A.units + 64 < cLine) : OpR X (compareOp .Lt) (rLtU X.K) := op_lt.or (op_ltD hu)
theorem g_ltI (q : Q (.bl (decide (i < j))) H) : rLtU K (.int i) (.int j) H Q := .inl ⟨i, j, rfl, rfl, q⟩
theorem g_ltD {d e : PyData} (hd : Dp K H x d) (he : Dp K H y e) (al : PySem.W.alike d e = true) (nn : d ≠ .none) (dp : d.depth ≤ 60) (q : Q (.bl (PySem.W.dataLt d e)) H) : rLtU K x y H Q := .inr ⟨d, e, hd, he, al, nn, dp, q⟩
/-! texts -/
theorem g_inS {c : Nat} {z : Str} (q : Q (.bl (decide (c ∈ z.cps.toList))) H) : (∃ (c' : Nat) (z' : Str), V.str ⟨#[c]⟩ = .str ⟨#[c']⟩ ∧ V.str z = .str z' ∧ Q (.bl (decide (c' ∈ z'.cps.toList))) H) := ⟨c, z, rfl, rfl, q⟩
theorem mt_swapcase : MtR X "str.swapcase" (fun x xs H Q => ∃ a, x = .str a ∧ xs = [] ∧ a.length ≤ 5592405 ∧ Q (.str (Txt.swapcase a)) H) :=
  mt0 (C := fun a => a.length ≤ 5592405) (g := fun a => .str (Txt.swapcase a)) fun a _ s _ hc h =>
    PySem.SC.swapcase (PyProof.Rows.short24 (by have h1 : a.length ≤ 5592405 := hc; have := PyProof.Rows.len_swapcase a; omega)) (h _ (s.toks + 1) ⟨_, rfl⟩)
theorem g_m0c {g : Str → V} {C : Str → Prop} (hc : C z) (q : Q (g z) H) : ∃ a, V.str z = .str a ∧ ([] : List V) = [] ∧ C a ∧ Q (g a) H := ⟨z, rfl, rfl, hc, q⟩
theorem g_join {p : Addr} {l : List Str} (h : SqL K H p (l.map V.str)) (hz : (l.map (·.length)).sum + l.length * z.length ≤ 16777216) (q : Q (.str (Txt.join z l)) H) :
    ∃ a p', ∃ ys : List Str, V.str z = .str a ∧ [V.ref p] = [.ref p'] ∧ (SqL K H p' (ys.map V.str) ∨ SqT K H p' (ys.map V.str)) ∧ (ys.map (·.length)).sum + ys.length * a.length ≤ 16777216 ∧ Q (.str (Txt.join a ys)) H :=
  ⟨z, p, l, rfl, rfl, .inl h, hz, q⟩
/-! keywords alone -/
theorem pe_callK0 {CX : CXT} {k : Nat} {f : Addr} {fd : FuncData} {ps ks : List Str} {sp : Sp} {E : XK} {x : Str} {p pos : Pos} {kws : List Keyword} {tk : TA} {g : List Value → List Value → List Value} {gV : List V → List V → List V}
    (F : FnOk X.prog X.w X.K X.mg X.base CX k f fd ps sp) (hr : Room k X.A) (hg : Gl X x) (hm : X.mg x = some (.ref f)) (hk : PySem.W.keepIn X.K (.ref f) = true) (hb : KBinds X.K fd ps ks g gV) (hx : Passes CX X E)
    (hkw : PK X kws tk) (hall : (backToKw pos (keywordEach kws X.env)).all (·.1.isSome) = true := by rfl) (hks : (backToKw pos (keywordEach kws X.env)).filterMap (·.1) = ks := by rfl)
    (hdb : (x == ("__debug__" : Str)) = false := by decide)
    (hpl : ((backTo pos (starEach [] X.env)).any (·.1) || (backToKw pos (keywordEach kws X.env)).any (·.1.isNone)) = false := by rfl) :
    PE X (.Call (.Name x p) [] kws pos) (tCallK sp gV E tNil tk) := by
  refine ⟨fun pins s σ H Q I h => ?_⟩
  refine wpAny_Call_Name_kw (ld_glob I hg hm ?_ hdb)
  refine PySem.W.callWith_KW0 (h₀ := X.base) I.ok.mod.kin hk hall ?_ hpl
  refine thn (hkw.run pos pins s σ H _ I h) fun ws s2 ⟨zs, H2, I2, rz, q2⟩ => ⟨I2.kIn, ?_⟩
  rw [hks]
  exact run_fnk F hr hb hx I2 .nil rz q2
/-! targets, sources -/
theorem g_gtup {n : Nat} {t : TGs} {P : L2.St → Hp → Prop} (h : SqT K H a xs) (hl : xs.length = n) (q : t xs σ H P) : gTup K n t (.ref a) σ H P := ⟨a, xs, rfl, h, hl, q⟩
theorem g_gcons {t : TG} {u : TGs} {P : L2.St → Hp → Prop} (q : t v σ H fun σ' H' => u xs σ' H' P) : gCons t u (v :: xs) σ H P := ⟨v, xs, rfl, q⟩
theorem g_gnil {P : L2.St → Hp → Prop} (q : P σ H) : gNil [] σ H P := ⟨rfl, q⟩
theorem g_gsub {to ti : TE} {t : TSet} {P : L2.St → Hp → Prop} (q : to σ H fun o H1 => ti σ H1 fun i H2 => t o i v H2 fun H3 => P σ H3) : gSub to ti t v σ H P := q
theorem g_setL {i : Nat} {P : Hp → Prop} (h : H p = some (.lst xs)) (hi : i < xs.length) (q : P (upd H p (.lst (xs.set i v)))) : rSetL (.ref p) (.int (i : Nat)) v H P :=
  ⟨p, xs, _, i, rfl, rfl, h, by unfold ixN; rw [if_pos (by omega), if_pos (by omega)]; simp, q⟩
/-! * : ints; a text by an int -/
theorem fold_app (l : List (Array Nat)) (a : Array Nat) : (l.foldl (· ++ ·) a).toList = a.toList ++ (l.map Array.toList).flatten := by
  induction l generalizing a with
  | nil => simp
  | cons x r ih => rw [List.foldl_cons, ih]; simp
def mulS (z : Str) (n : Nat) : Str := ⟨((List.replicate n z.cps.toList).flatten).toArray⟩
theorem op_mulS : OpR X (binaryOp .Mult) (fun x y H Q => ∃ (z : Str) (n : Nat), x = .str z ∧ y = .int (n : Nat) ∧ n ≤ 1000000 ∧ z.length * n ≤ 1000000 ∧ z.length ≤ 1000000 ∧ Q (.str (mulS z n)) H) := by
  intro pins s σ H x y v u Q I rx ry h
  obtain ⟨z, n, rfl, rfl, hn, hz, hz1, q⟩ := h
  obtain ⟨t, rfl⟩ := rx
  obtain ⟨t', rfl⟩ := ry
  refine PySem.P.mul_str (by simp; omega) (fun h1 h2 => ?_) (fun h1 h2 => PyProof.Rows.short24 (by rw [Int.toNat_natCast]; omega)) ?_
  · have h3 : (9223372036854775807 : Int) / 1000000 ≤ (2 ^ 63 - 1) / (n : Int) := by
      have : (0 : Int) < (n : Int) := by omega
      rw [Int.le_ediv_iff_mul_le this]
      have : (9223372036854775807 : Int) / 1000000 * (n : Int) ≤ 9223372036854775807 / 1000000 * 1000000 := Int.mul_le_mul_of_nonneg_left (by omega) (by decide)
      omega
    have h4 : ((9223372036854775807 : Int) / 1000000) = 9223372036854 := by decide
    omega
  · have e0 : n = 0 → mulS z n = Str.empty := fun e => by subst e; rfl
    by_cases h1 : (n : Int) < 1
    · rw [if_pos h1]
      have := e0 (by omega)
      exact ⟨by rw [sizeLine_eq]; decide, .str (mulS z n), H, I.tok _, ⟨_, by rw [this]⟩, q⟩
    · rw [if_neg h1]
      by_cases h2 : (((n : Int) == 1) || z.length == 0) = true
      · rw [if_pos h2]
        have e : mulS z n = z := by
          unfold mulS
          rcases (Bool.or_eq_true _ _).mp h2 with h3 | h3
          · have : n = 1 := by have := eq_of_beq h3; omega
            subst this
            simp
          · have h3 : z.cps.size = 0 := eq_of_beq h3
            have : z.cps.toList = [] := by
              rw [← List.length_eq_zero_iff, Array.length_toList]; exact h3
            rw [this]
            cases z with
            | mk c =>
              have : c = #[] := Array.toList_inj.mp this
              subst this
              simp
        exact ⟨.str (mulS z n), H, I, ⟨t, by rw [e]⟩, q⟩
      · rw [if_neg h2]
        have e : mulS z n = ⟨(List.replicate (n : Int).toNat z.cps).foldl (· ++ ·) #[]⟩ := by
          unfold mulS
          congr 1
          apply Array.toList_inj.mp
          rw [fold_app, Int.toNat_natCast, List.map_replicate]
          simp
        refine ⟨?_, .str (mulS z n), H, I.tok _, ⟨_, by rw [e]⟩, q⟩
        rw [← e, sizeLine_eq]
        show (mulS z n).cps.size ≤ _
        unfold mulS
        have h5 : z.cps.size * n ≤ 1000000 := hz
        simp only [List.size_toArray, List.length_flatten, List.map_replicate, List.sum_replicate_nat, Array.length_toList]
        rw [Nat.mul_comm]
        omega
def rMulS : R2 := fun x y H Q => ∃ (z : Str) (n : Nat), x = .str z ∧ y = .int (n : Nat) ∧ n ≤ 1000000 ∧ z.length * n ≤ 1000000 ∧ z.length ≤ 1000000 ∧ Q (.str (mulS z n)) H
def rMulU : R2 := fun x y H Q => rI CMul (fun i j => .int (i * j)) x y H Q ∨ (rMulS x y H Q ∨ rRep x y H Q)
theorem op_mulU : OpR X (binaryOp .Mult) rMulU := op_mul.or ((show OpR X (binaryOp .Mult) rMulS from op_mulS).or op_rep)
theorem g_mulI (c : CMul i j) (q : Q (.int (i * j)) H) : rMulU (.int i) (.int j) H Q := .inl ⟨i, j, rfl, rfl, c, q⟩
theorem g_mulS {n : Nat} (h1 : n ≤ 1000000) (h2 : z.length * n ≤ 1000000) (h3 : z.length ≤ 1000000) (q : Q (.str (mulS z n)) H) : rMulU (.str z) (.int (n : Nat)) H Q := .inr (.inl ⟨z, n, rfl, rfl, h1, h2, h3, q⟩)
theorem g_mulL {n : Nat} (h : H a = some (.lst xs)) (h1 : n ≤ 1000000) (h2 : xs.length * n ≤ 16000000) (q : ∀ p, H p = none → Q (.ref p) (upd H p (.lst (List.replicate n xs).flatten))) : rMulU (.ref a) (.int (n : Nat)) H Q :=
  .inr (.inr ⟨a, n, xs, rfl, rfl, h, by omega, by omega, by rw [sizeLine_eq, Int.toNat_natCast]; omega, q⟩)
/-! the same with the written part named -/
variable (hK : X.K = K)
include hK
theorem ix_seqK : IxR X (rIx K) := hK ▸ ix_seq
theorem sl_UK : SlR X (rSlU K) := hK ▸ sl_U
theorem op_eqUK (hu : X.A.units + 64 < cLine) : OpR X (compareOp .Eq) (rEqU K) := hK ▸ op_eqU hu
theorem op_neUK (hu : X.A.units + 64 < cLine) : OpR X (compareOp .NotEq) (rNeU K) := hK ▸ op_neU hu
theorem op_ltUK (hu : X.A.units + 64 < cLine) : OpR X (compareOp .Lt) (rLtU K) := hK ▸ op_ltU hu
theorem op_inK : OpR X (compareOp .In) (rIn K false) := hK ▸ op_in_seq
theorem op_notInK : OpR X (compareOp .NotIn) (rIn K true) := hK ▸ op_notIn_seq
theorem call_lenUK : CallR X (.builtin "len") (rLenU K) := hK ▸ call_lenU
theorem call_maxUK (hc : X.calm = true) : CallR X (.builtin "max") (rMaxU K) := hK ▸ call_maxU hc
theorem call_minUK (hc : X.calm = true) : CallR X (.builtin "min") (rMinU K) := hK ▸ call_minU hc
theorem call_allK (hc : X.calm = true) : CallR X (.builtin "all") (rAll K) := hK ▸ cr_all hc
theorem call_anyK (hc : X.calm = true) : CallR X (.builtin "any") (rAny K) := hK ▸ cr_any hc
theorem call_sumK (hc : X.calm = true) : CallR X (.builtin "sum") (rSum K) := hK ▸ cr_sum hc
theorem call_isiUK : CallR X (.builtin "isinstance") (rIsiU K) := hK ▸ call_isiU
def rJoin (K : PySem.W.Frag) : V → List V → Hp → VK → Prop := fun x xs H Q => ∃ a p, ∃ ys : List Str, x = .str a ∧ xs = [.ref p] ∧ (SqL K H p (ys.map V.str) ∨ SqT K H p (ys.map V.str)) ∧ (ys.map (·.length)).sum + ys.length * a.length ≤ 16777216 ∧ Q (.str (Txt.join a ys)) H
theorem mt_joinK : MtR X "str.join" (rJoin K) := hK ▸ mt_join
theorem pi_listK {tg l : Expr} {tl : TE} (hl : PE X l tl) : PI X tg l (iList K tl) := hK ▸ pi_list hl
theorem pg_tupK {es : List Expr} {k : Nat} {pos : Pos} {t : TGs} {n : Nat} (hc : X.calm = true) (h : PGs X es t)
    (hn : (assignEach es X.env).length = n := by rfl) (hst : (assignEach es X.env).findIdx? (·.1) = none := by rfl) : PG X (.Tuple es k pos) (gTup K n t) := hK ▸ pg_tup hc h hn hst
theorem pe_bmK {e : Expr} {to : TE} {t : TA} {T : String} {r : V → List V → Hp → VK → Prop} (h : PE X e (tBM X.K T r to t)) : PE X e (tBM K T r to t) := hK ▸ h
theorem pe_bm0K {e : Expr} {to : TE} {T : String} {r : V → List V → Hp → VK → Prop} (h : PE X e (tBM0 X.K T r to)) : PE X e (tBM0 K T r to) := hK ▸ h
theorem pe_fldK {e : Expr} {ta : TE} {f : Str} (h : PE X e (tFld X.K ta f)) : PE X e (tFld K ta f) := hK ▸ h
omit hK
theorem g_joinK {p : Addr} {l : List Str} (h : SqL K H p (l.map V.str)) (hz : (l.map (·.length)).sum + l.length * z.length ≤ 16777216) (q : Q (.str (Txt.join z l)) H) : rJoin K (.str z) [.ref p] H Q := ⟨z, p, l, rfl, rfl, .inl h, hz, q⟩
/-! any source: a list, a tuple, a text -/
def iAny (K : PySem.W.Frag) (te : TE) : TI := fun σ H R => te σ H fun x H1 => (∃ a, x = .ref a ∧ (∃ xs, SqL K H1 a xs) ∧ R (Itl K a) H1) ∨ (∃ a, x = .ref a ∧ (∃ xs, SqT K H1 a xs) ∧ R (Itt K a) H1) ∨ ∃ z, x = .str z ∧ R (Its z) H1
theorem pi_anyK {tg e : Expr} {te : TE} (hK : X.K = K) (he : PE X e te) : PI X tg e (iAny K te) := by
  subst hK
  constructor
  intro pins s σ H R I h
  refine thn (he.run pins s σ H _ I h) ?_
  rintro v s1 ⟨y, H1, I1, r1, w⟩
  rcases w with ⟨a, rfl, ⟨xs, hq⟩, q⟩ | ⟨a, rfl, ⟨xs, hq⟩, q⟩ | ⟨z, rfl, q⟩
  · cases r1
    obtain ⟨its, -, p, -⟩ := I1.list hq
    exact wpAny_pyIter_list p.isList (pi_one (tk := s1.toks) I1 _ (turn_list a _) ⟨_, Heap.get?_push_size _ rfl, rfl, rfl⟩ q)
  · cases r1
    obtain ⟨its, -, p, -⟩ := I1.tuple hq
    exact wpAny_pyIter_tuple (show s1.heap.IsTuple a its.toArray from p) (pi_one (tk := s1.toks) I1 _ (turn_tuple a _) ⟨_, Heap.get?_push_size _ rfl, rfl, rfl⟩ q)
  · obtain ⟨t, rfl⟩ := r1
    cases b : z.cps.all (· < 128) with
    | false => exact wpAny_pyIter_wide b (pi_one (tk := s1.toks) I1 _ (turn_str _ z t "str_iterator" (.inr rfl)) ⟨_, Heap.get?_push_size _ rfl, rfl, rfl⟩ q)
    | true => exact wpAny_pyIter_ascii b (pi_one (tk := s1.toks) I1 _ (turn_str _ z t "str_ascii_iterator" (.inl rfl)) ⟨_, Heap.get?_push_size _ rfl, rfl, rfl⟩ q)
theorem g_iAny {ta : TE} {R : It → Hp → Prop} (q : ta σ H fun x H1 => (∃ a, x = .ref a ∧ (∃ xs, SqL K H1 a xs) ∧ R (Itl K a) H1) ∨ (∃ a, x = .ref a ∧ (∃ xs, SqT K H1 a xs) ∧ R (Itt K a) H1) ∨ ∃ z, x = .str z ∧ R (Its z) H1) : iAny K ta σ H R := q
theorem g_anyL {P P2 : Addr → Prop} {P3 : Str → Prop} (h : SqL K H a xs) (q : P a) : (∃ a', V.ref a = .ref a' ∧ (∃ xs, SqL K H a' xs) ∧ P a') ∨ (∃ a', V.ref a = .ref a' ∧ (∃ xs, SqT K H a' xs) ∧ P2 a') ∨ ∃ z, V.ref a = .str z ∧ P3 z := .inl ⟨a, rfl, ⟨xs, h⟩, q⟩
theorem g_anyT {P P2 : Addr → Prop} {P3 : Str → Prop} (h : SqT K H a xs) (q : P2 a) : (∃ a', V.ref a = .ref a' ∧ (∃ xs, SqL K H a' xs) ∧ P a') ∨ (∃ a', V.ref a = .ref a' ∧ (∃ xs, SqT K H a' xs) ∧ P2 a') ∨ ∃ z, V.ref a = .str z ∧ P3 z := .inr (.inl ⟨a, rfl, ⟨xs, h⟩, q⟩)
theorem g_anyS {P P2 : Addr → Prop} {P3 : Str → Prop} (q : P3 z) : (∃ a', V.str z = .ref a' ∧ (∃ xs, SqL K H a' xs) ∧ P a') ∨ (∃ a', V.str z = .ref a' ∧ (∃ xs, SqT K H a' xs) ∧ P2 a') ∨ ∃ z', V.str z = .str z' ∧ P3 z' := .inr (.inr ⟨z, rfl, q⟩)
/-! x[::-1], a text -/
theorem rev_ix (n : Nat) : Builtin.Str.strSliceIndices none none (-1) n = (List.range n).reverse := by
  rw [← PySem.W.krv_range n, ← PySem.W.krv_sliceRange n]
  rfl
def tRevS (te : TE) : TE := fun σ H Q => te σ H fun x H1 => ∃ z, x = .str z ∧ z.length ≤ sizeLine ∧ Q (.str ⟨z.cps.toList.reverse.toArray⟩) H1
theorem pe_revS {e : Expr} {te : TE} {k : Nat} {p1 p2 p3 pos : Pos} (he : PE X e te) : PE X (.Subscript e (.Slice none none (some (.UnaryOp .USub (.Constant (.int 1) k p1) p2)) p3) pos) (tRevS te) := by
  constructor
  intro pins s σ H Q I h
  refine Subscript_ (thn (he.run pins s σ H _ I h) ?_)
  rintro v s1 ⟨x, H1, I1, r1, z, rfl, hz, q⟩
  obtain ⟨t, rfl⟩ := r1
  have hst : PO X (some (.UnaryOp .USub (.Constant (.int 1) k p1) p2)) (tPart (tUn (rU fun i => .int (-i)) (tC (.int 1)))) := po_some (pe_un un_neg pe_int)
  refine wpAny_Slice (thn (po_none.run pins s1 σ H1 (fun o H2 => o = none ∧ H2 = H1) I1 ⟨rfl, rfl⟩) ?_)
  rintro vl s2 ⟨l, H2, I2, pl, rfl, rfl⟩
  refine thn (po_none.run pins s2 σ H2 (fun o H3 => o = none ∧ H3 = H2) I2 ⟨rfl, rfl⟩) ?_
  rintro vu s3 ⟨u, H3, I3, pu, rfl, rfl⟩
  refine thn (hst.run pins s3 σ H3 (fun o H4 => o = some (-1) ∧ H4 = H3) I3 ⟨1, rfl, -1, rfl, rfl, rfl⟩) ?_
  rintro vs s4 ⟨o, H4, I4, ps, rfl, rfl⟩
  have I5 : Inv X pins σ H4 { s4 with heap := s4.heap.push { cls := .type "slice", data := .fields #[vl, vu, vs] } } := I4.kept (t' := s4.toks) fun b ob q => Heap.get?_push_of_some _ q
  obtain ⟨l', rfl, el⟩ := IsPart.raw pl
  obtain ⟨u', rfl, eu⟩ := IsPart.raw pu
  obtain ⟨k', rfl, ek⟩ := IsPart.raw ps
  cases l' with
  | some _ => cases el
  | none =>
    cases u' with
    | some _ => cases eu
    | none =>
      cases k' with
      | none => cases ek
      | some kk =>
        obtain ⟨ki, kt⟩ := kk
        have eki : ki = -1 := Option.some.inj ek
        subst eki
        show wpAny (model X.prog X.w) X.A (subscriptTail e (.Slice none none (some (.UnaryOp .USub (.Constant (.int 1) k p1) p2)) p3) (.str z t) (.ref s4.heap.objs.size)) (EP X pins σ Q) X.xe _
        refine tail_any (ops := [.ref s4.heap.objs.size, .str z t]) (typeIs_str _ _ _) F.slot_str_getitem.lookup ?_ (by with_unfolding_all rfl)
        refine wpAny_getItem_str_slice (l := none) (u := none) (st := some (-1, kt)) ⟨_, Heap.get?_push_size _ rfl, rfl, rfl⟩ rfl ?_
        have hp : slicePicked z none none (some (-1, kt)) = (List.range z.length).reverse := rev_ix z.length
        have er : ((List.range z.length).reverse.filterMap (z.cps[·]?)) = z.cps.toList.reverse := by
          rw [List.filterMap_reverse, show z.length = z.cps.size from rfl, PySem.W.krv_all]
        show (sliceMade z t none none (some (-1, kt))).post _ _
        unfold sliceMade
        rw [if_neg (by intro h; simp at h), hp, er]
        refine ⟨?_, .str _, H4, I5.tok _, ⟨_, rfl⟩, q⟩
        show z.cps.toList.reverse.toArray.size ≤ sizeLine
        rw [List.size_toArray, List.length_reverse, Array.length_toList]
        exact hz
theorem g_revS {te : TE} (q : te σ H fun x H1 => ∃ z, x = .str z ∧ z.length ≤ sizeLine ∧ Q (.str ⟨z.cps.toList.reverse.toArray⟩) H1) : tRevS te σ H Q := q
theorem g_revS1 {P : Str → Prop} (h : z.length ≤ sizeLine) (q : P z) : ∃ z', V.str z = .str z' ∧ z'.length ≤ sizeLine ∧ P z' := ⟨z, rfl, h, q⟩
theorem g_pop {y : V} {xs : List V} (h : H p = some (.lst (xs ++ [y]))) (q : Q y (upd H p (.lst xs))) : rPop (.ref p) [] H Q := ⟨p, _, y, rfl, rfl, h, by simp, by rw [List.dropLast_concat]; exact q⟩
theorem g_append {y : V} {xs : List V} (h : H p = some (.lst xs)) (hz : xs.length < 16000000) (q : Q .non (upd H p (.lst (xs ++ [y])))) : rAppend (.ref p) [y] H Q := ⟨p, xs, y, rfl, rfl, h, by rw [sizeLine_eq]; omega, q⟩
/-- a list or a tuple at a -/
def Sq (K : PySem.W.Frag) (H : Hp) (a : Addr) (xs : List V) : Prop := SqL K H a xs ∨ SqT K H a xs
theorem st_same {H' : Hp} (e : Same H H') (h : SqT K H a xs) : SqT K H' a xs := by
  rcases h with (h | ⟨o, h⟩) | h
  · exact .inl (.inl (e _ _ h))
  · exact .inl (.inr ⟨o, e _ _ h⟩)
  · exact .inr h
theorem Sq.same {H' : Hp} (e : Same H H') (h : Sq K H a xs) : Sq K H' a xs := h.elim (fun h => .inl (sq_same e h)) fun h => .inr (st_same e h)
theorem g_anySq {H0 : Hp} {ta : TE} {R : It → Hp → Prop} (e : ∀ Q : VK, Q (.ref a) H → ta σ H Q) (h : Sq K H0 a xs) (e0 : Same H0 H) (q : ∀ J G, Walk J xs.length G (YAt xs) → (∀ H', Same H0 H' → G H') → R J H) : iAny K ta σ H R :=
  e _ (h.elim (fun h => .inl ⟨a, rfl, ⟨xs, sq_same e0 h⟩, q _ _ walk_list fun _ e => sq_same e h⟩) fun h => .inr (.inl ⟨a, rfl, ⟨xs, st_same e0 h⟩, q _ _ walk_tup fun _ e => st_same e h⟩))
theorem g_lenSq (h : Sq K H a xs) (q : Q (.int (xs.length : Nat)) H) : rLenU K [.ref a] H Q := h.elim (fun h => g_lenL h q) fun h => g_lenT h q
end
end Hx

namespace Hx
open PySem PySem.Spec PyProof.Rows L2
/-! ### defs that are called where nothing is being shown (no repr under way): so repr of data is known -/
structure RoomG (k : Nat) (A : Around) : Prop extends Room k A where
  gd : A.guards = some []
section
variable {j k : Nat} {A : Around}
theorem RoomG.mono (r : RoomG k A) (h : j ≤ k) : RoomG j A := ⟨r.toRoom.mono h, r.gd⟩
theorem RoomG.deeper (r : RoomG (k + 1) A) (env : Env) : RoomG k (A.deeper env) := ⟨r.toRoom.deeper env, r.gd⟩
theorem RoomG.make (r : RoomG (k + 1) A) (C : Addr) (us : List Value) (kw : List (Str × Value)) : RoomG k (A.under (.builtin "type.__call__" ⟨.ref C :: us, kw⟩)) := by
  refine ⟨r.toRoom.make C us kw, ?_⟩
  simp [Around.under, Code.guards, Code.isGuard, guardIds, pushGuards, r.gd]
theorem RoomG.units (r : RoomG k A) : A.units + 64 < cLine := r.toRoom.units
end
theorem huG {A : Around} {k : Nat} (hr : RoomG k A) : A.units + 1 < cLine := hu_of hr.toRoom
section
variable {P : Program} {w : World} {K : PySem.W.Frag} {mg : Str → Option Value} {base : Heap} {CX : CXT} {j k : Nat} {f : Addr} {fd : FuncData} {ps : List Str} {sp : Sp}
structure FnG (P : Program) (w : World) (K : PySem.W.Frag) (mg : Str → Option Value) (base : Heap) (CX : CXT) (k : Nat) (f : Addr) (fd : FuncData) (ps : List Str) (sp : Sp) : Prop where
  many : ∀ vs H Q E, sp vs H Q E → vs.length = ps.length
  goes : ∀ (A : Around) (below : List Env) (s : Shared) (H : Hp) (given : Args) (us : List Value) (vs : List V) (Q : VK) (E : XK), RoomG k A →
    Env0 P w K mg base A below s H → BindsTo s fd given (ps.zip us) → Vals vs us → sp vs H Q E → codeAny (model P w) A (.call (.ref f) given) (CR CX below P w H s Q E) s
theorem FnG.mono (F : FnG P w K mg base CX j f fd ps sp) (h : j ≤ k) : FnG P w K mg base CX k f fd ps sp := ⟨F.many, fun A b s H g us vs Q E r => F.goes A b s H g us vs Q E (r.mono h)⟩
theorem FnG.imp {sp' : Sp} (F : FnG P w K mg base CX k f fd ps sp) (h : ∀ vs H Q E, sp' vs H Q E → sp vs H Q E) : FnG P w K mg base CX k f fd ps sp' :=
  ⟨fun vs H Q E q => F.many vs H Q E (h _ _ _ _ q), fun A b s H g us vs Q E r e bd rv q => F.goes A b s H g us vs Q E r e bd rv (h _ _ _ _ q)⟩
/-- what a wanted end makes of a call's end -/
theorem fl_end {X : Cx} {pins : List (Addr × Obj)} {σ : L2.St} {H : Hp} {s : Shared} {Q : VK} {E : XK} {r : Result} {s' : Shared} (I : Inv X pins σ H s) (hx : ∀ e, CX X.stack H s E e s' → X.xe e s') (h : CR CX X.stack X.prog X.w H s Q E r s') :
    match r with | .ok (.ret u) => EP X pins σ Q u s' | .ok _ => False | .error e => X.xe e s' := by
  rcases r with e | (u | _ | _ | _)
  · exact hx e h
  all_goals first | exact I.after h | exact h.elim
end
section
variable {X : Cx} {CX : CXT} {k : Nat} {f : Addr} {fd : FuncData} {ps ks : List Str} {sp : Sp} {E : XK} {x : Str} {p pos : Pos} {e : Expr} {es : List Expr} {kws : List Keyword} {ta tk : TA} {g : List Value → List Value → List Value} {gV : List V → List V → List V}
theorem into {pins : List (Addr × Obj)} {σ : L2.St} {H : Hp} {s : Shared} {Q : VK} {E : XK} {given : Args} {us : List Value} {vs : List V} (F : FnG X.prog X.w X.K X.mg X.base CX k f fd ps sp) (hr : RoomG k X.A) (hx : ∀ e s', CX X.stack H s E e s' → X.xe e s')
    (I : Inv X pins σ H s) (hb : (us.length = ps.length) → BindsTo s fd given (ps.zip us)) (r : Vals vs us) (h : sp vs H Q E) : wpAny (model X.prog X.w) X.A (call (.ref f) given.pos given.kw) (EP X pins σ Q) X.xe s := by
  have n : us.length = ps.length := r.length.symm.trans (F.many _ _ _ _ h)
  obtain ⟨gp, gk⟩ := given
  refine wpAny_call (codeAny_mono (F.goes X.A X.stack s H ⟨gp, gk⟩ us vs Q E hr I.env0 (hb n) r h) fun r s' hq => ?_)
  have z := fl_end I (fun e => hx e s') hq
  rcases r with e | (u | _ | _ | _) <;> exact z
theorem pc_pos (F : FnG X.prog X.w X.K X.mg X.base CX k f fd ps sp) (hr : RoomG k X.A) (hg : Gl X x) (hm : X.mg x = some (.ref f)) (kp : PySem.W.keepIn X.K (.ref f) = true) (hb : Binds X.K fd ps []) (hx : Passes CX X E) (ha : PA X (e :: es) ta)
    (n2 : (x == ("__debug__" : Str)) = false := by decide) (he : starEach (e :: es) X.env = (false, eval e X.env) :: starEach es X.env := by rfl) (hpl : (backTo pos (starEach es X.env)).any (·.1) = false := by rfl) :
    PE X (.Call (.Name x p) (e :: es) [] pos) (tCall sp [] E ta) := by
  refine ⟨fun pins s σ H Q I h => wpAny_Call_Name_kw (ld_glob I hg hm ?_ n2)⟩
  refine PySem.W.callWith_K (h₀ := X.base) I.ok.mod.kin kp (thn (ha.run pos pins s σ H _ I h) fun us s1 hh => ?_) he hpl
  obtain ⟨vs, G, J, r, q⟩ := hh
  refine ⟨J.kIn, into (given := ⟨us, []⟩) (us := us) F hr (fun e s' => hx pins σ G s1 e s' J) J (fun n => ?_) r (by rw [List.append_nil] at q; exact q)⟩
  have z := hb s1 us J.kIn (by rw [List.append_nil]; exact n)
  rw [List.append_nil] at z; exact z
theorem pc_none (F : FnG X.prog X.w X.K X.mg X.base CX k f fd ps sp) (hr : RoomG k X.A) (hg : Gl X x) (hm : X.mg x = some (.ref f)) (kp : PySem.W.keepIn X.K (.ref f) = true) (hb : Binds X.K fd ps []) (hx : Passes CX X E) (n2 : (x == ("__debug__" : Str)) = false := by decide) :
    PE X (.Call (.Name x p) [] [] pos) (tCall sp [] E tNil) := by
  refine ⟨fun pins s σ H Q I h => wpAny_Call_Name_kw (ld_glob I hg hm ?_ n2)⟩
  refine PySem.W.callWith_K0 I.kIn kp (into (given := ⟨[], []⟩) (us := []) F hr (fun e s' => hx pins σ H s e s' I) I (fun n => ?_) .nil h)
  exact hb s [] I.kIn n
theorem pc_kws (F : FnG X.prog X.w X.K X.mg X.base CX k f fd ps sp) (hr : RoomG k X.A) (hg : Gl X x) (hm : X.mg x = some (.ref f)) (kp : PySem.W.keepIn X.K (.ref f) = true) (hb : KBinds X.K fd ps ks g gV) (hx : Passes CX X E) (hk : PK X kws tk)
    (all : (backToKw pos (keywordEach kws X.env)).all (·.1.isSome) = true := by rfl) (nms : (backToKw pos (keywordEach kws X.env)).filterMap (·.1) = ks := by rfl) (n2 : (x == ("__debug__" : Str)) = false := by decide)
    (pl : ((backTo pos (starEach [] X.env)).any (·.1) || (backToKw pos (keywordEach kws X.env)).any (·.1.isNone)) = false := by rfl) : PE X (.Call (.Name x p) [] kws pos) (tCallK sp gV E tNil tk) := by
  refine ⟨fun pins s σ H Q I h => wpAny_Call_Name_kw (ld_glob I hg hm ?_ n2)⟩
  refine PySem.W.callWith_KW0 (h₀ := X.base) I.ok.mod.kin kp all ?_ pl
  refine thn (hk.run pos pins s σ H _ I h) fun ws s2 hh => ?_
  obtain ⟨zs, G, J, rz, q⟩ := hh
  refine ⟨J.kIn, ?_⟩
  rw [nms]
  exact into (given := ⟨[], ks.zip ws⟩) (us := g [] ws) F hr (fun e s' => hx pins σ G s2 e s' J) J (fun n => hb.to s2 [] ws J.kIn n) (hb.rel .nil rz) q
theorem pc_mix (F : FnG X.prog X.w X.K X.mg X.base CX k f fd ps sp) (hr : RoomG k X.A) (hg : Gl X x) (hm : X.mg x = some (.ref f)) (kp : PySem.W.keepIn X.K (.ref f) = true) (hb : KBinds X.K fd ps ks g gV) (hx : Passes CX X E) (ha : PA X (e :: es) ta) (hk : PK X kws tk)
    (all : (backToKw pos (keywordEach kws X.env)).all (·.1.isSome) = true := by rfl) (nms : (backToKw pos (keywordEach kws X.env)).filterMap (·.1) = ks := by rfl) (n2 : (x == ("__debug__" : Str)) = false := by decide)
    (he : starEach (e :: es) X.env = (false, eval e X.env) :: starEach es X.env := by rfl)
    (pl : ((backTo pos (starEach (e :: es) X.env)).any (·.1) || (backToKw pos (keywordEach kws X.env)).any (·.1.isNone)) = false := by rfl) : PE X (.Call (.Name x p) (e :: es) kws pos) (tCallK sp gV E ta tk) := by
  refine ⟨fun pins s σ H Q I h => wpAny_Call_Name_kw (ld_glob I hg hm ?_ n2)⟩
  refine PySem.W.callWith_KW (h₀ := X.base) I.ok.mod.kin kp all (thn (ha.run pos pins s σ H _ I h) fun us s1 h1 => ?_) pl he
  obtain ⟨vs, G1, J1, r1, q1⟩ := h1
  refine thn (hk.run pos pins s1 σ G1 _ J1 q1) fun ws s2 hh => ?_
  obtain ⟨zs, G, J, rz, q⟩ := hh
  refine ⟨J.kIn, ?_⟩
  rw [nms]
  exact into (given := ⟨us, ks.zip ws⟩) (us := g us ws) F hr (fun e s' => hx pins σ G s2 e s' J) J (fun n => hb.to s2 us ws J.kIn n) (hb.rel r1 rz) q
/-- in the body of a try: what the callee lets out may speak of the slots -/
def tCallE (sp : Sp) (W : WX) (t : TA) : TE := fun σ H Q => t σ H fun vs G => sp vs G Q fun cls d J => W cls d σ J
theorem g_callE {W : WX} {σ : L2.St} {H : Hp} {Q : VK} (h : ta σ H fun vs G => sp vs G Q fun cls d J => W cls d σ J) : tCallE sp W ta σ H Q := h
theorem pc_try {W : WX} (F : FnG X.prog X.w X.K X.mg X.base (L2.CX X.prog X.w) k f fd ps sp) (hr : RoomG k X.A) (hg : Gl X x) (hm : X.mg x = some (.ref f)) (kp : PySem.W.keepIn X.K (.ref f) = true) (hb : Binds X.K fd ps []) (tk : Takes X W) (ha : PA X (e :: es) ta)
    (n2 : (x == ("__debug__" : Str)) = false := by decide) (he : starEach (e :: es) X.env = (false, eval e X.env) :: starEach es X.env := by rfl) (hpl : (backTo pos (starEach es X.env)).any (·.1) = false := by rfl) :
    PE X (.Call (.Name x p) (e :: es) [] pos) (tCallE sp W ta) := by
  refine ⟨fun pins s σ H Q I h => wpAny_Call_Name_kw (ld_glob I hg hm ?_ n2)⟩
  refine PySem.W.callWith_K (h₀ := X.base) I.ok.mod.kin kp (thn (ha.run pos pins s σ H _ I h) fun us s1 hh => ?_) he hpl
  obtain ⟨vs, G, J, r, q⟩ := hh
  refine ⟨J.kIn, into (given := ⟨us, []⟩) (us := us) F hr (fun e s' c => passAt tk σ pins G s1 e s' J c) J (fun n => ?_) r q⟩
  have z := hb s1 us J.kIn (by rw [List.append_nil]; exact n)
  rw [List.append_nil] at z; exact z
end
/-! ### a def by its body -/
section
variable {P : Program} {w : World} {K : PySem.W.Frag} {mg : Str → Option Value} {base : Heap}
theorem body_goes {CX : CXT} {k : Nat} {f : Addr} {name qual : Str} {pr : Arguments} {body : List Stmt} {sc : Scope} {dV kV doc pm cdv ct oc : Value} {an od : Option Addr} {osl : Array (Option Value)} {N ps : List Str} {sp : Sp}
    (lk : K.lookup f = some ⟨oc, od, .func (PySem.W.fnOf name qual pr body sc dV kV doc pm an cdv ct), osl⟩) (hcd : PySem.W.codeIn K cdv qual = true) (S : FnScope N ps sc) (many : ∀ vs H Q E, sp vs H Q E → vs.length = ps.length)
    (hbody : ∀ (A : Around) (below : List Env) (s : Shared) (H : Hp) (vs : List V) (Q : VK) (E : XK), RoomG k (A.deeper (envOfC qual sc s.heap.objs.size f cdv)) → sp vs H Q E →
      ∃ t, PSs (cxOf CX P w K mg base N qual sc f cdv A below s H E) body t ∧ t { nx := fun _ G => Q .non G, rt := Q } (start N vs) H) : FnG P w K mg base CX (k + 1) f (PySem.W.fnOf name qual pr body sc dV kV doc pm an cdv ct) ps sp := by
  refine ⟨many, fun A below s H given us vs Q E hr e0 hb rv h => ?_⟩
  have old : ∀ b o, base.get? b = some o → s.heap.get? b = some o := fun b o e => (e0.bs b o e).1
  have KX : K.In s.heap := e0.mod.kin.keeps old
  have kinds : ∀ y ∈ ps.zip us, sc.names.lookup y.1 = some .local ∨ (sc.names.lookup y.1 = some .cell ∧ ((cellsFrom (s.heap.objs.size + 1) sc.names []).lookup y.1).isSome = true) := by
    rintro ⟨n, v⟩ hy
    exact (S.par n (List.of_mem_zip hy).1).imp id fun q => ⟨q, PySem.W.cellsFrom_some _ _ _ (.inl q)⟩
  refine codeAny_call_function hr.toRoom.depth (KX _ _ lk) rfl S.co S.gen rfl (PySem.W.codeRec_of KX hcd) (hb _ _ _ _ ?_)
  refine wpAny_newFunctionEnv_cells S.kind kinds fun env he s1 x => ?_
  subst he
  refine ⟨(e0.mod.nolimit.keeps old).keeps x.toInCall.keep, codeAny_func ?_⟩
  obtain ⟨t, ht, hq⟩ := hbody A below s H vs Q E (hr.deeper _) h
  refine wpAny_mono (ht.run [] s1 (start N vs) H _ (inv_start S hr.hd e0 (many _ _ _ _ h) rv x) hq) (fun fl s' hs => ?_) fun _ _ hs => hs
  cases fl with
  | ret u =>
    obtain ⟨v, τ, G, J, r, q⟩ := hs
    exact ⟨v, G, J.os, J.bare, J.base, J.hok, r, q⟩
  | next =>
    obtain ⟨τ, G, J, q⟩ := hs
    exact ⟨.non, G, J.os, J.bare, J.base, J.hok, rfl, q⟩
  | brk => obtain ⟨_, _, _, q⟩ := hs; exact q.elim
  | cont => obtain ⟨_, _, _, q⟩ := hs; exact q.elim
variable {x qual : Str} {st : Stmt} {f : Addr} {fd : FuncData} {N ps : List Str} {k : Nat} {sp : Sp}
theorem fnX (F : Fun K x qual st f fd) (S : FnScope N ps (defScope st)) (many : ∀ vs H Q E, sp vs H Q E → vs.length = ps.length)
    (hbody : ∀ (cdv : Value) (A : Around) (below : List Env) (s : Shared) (H : Hp) (vs : List V) (Q : VK) (E : XK), RoomG k (A.deeper (envOfC qual (defScope st) s.heap.objs.size f cdv)) → sp vs H Q E →
      ∃ t, PSs (cxOf (L2.CX P w) P w K mg base N qual (defScope st) f cdv A below s H E) (defBody st) t ∧ t { nx := fun _ G => Q .non G, rt := Q } (start N vs) H) : FnG P w K mg base (L2.CX P w) (k + 1) f fd ps sp := by
  obtain ⟨oc, od, kV, doc, pm, an, cdv, ct, osl, rfl, lk, hcd⟩ := F.ex
  exact body_goes lk hcd S many fun A b s H vs Q E hr h => hbody cdv A b s H vs Q E hr h
theorem fn0 (F : Fun K x qual st f fd) (S : FnScope N ps (defScope st)) (many : ∀ vs H Q E, sp vs H Q E → vs.length = ps.length)
    (hbody : ∀ (cdv : Value) (A : Around) (below : List Env) (s : Shared) (H : Hp) (vs : List V) (Q : VK) (E : XK), RoomG k (A.deeper (envOfC qual (defScope st) s.heap.objs.size f cdv)) → sp vs H Q E →
      ∃ t, PSs (cxOf CX0 P w K mg base N qual (defScope st) f cdv A below s H E).nox (defBody st) t ∧ t { nx := fun _ G => Q .non G, rt := Q } (start N vs) H) : FnG P w K mg base CX0 (k + 1) f fd ps sp := by
  obtain ⟨oc, od, kV, doc, pm, an, cdv, ct, osl, rfl, lk, hcd⟩ := F.ex
  refine body_goes lk hcd S many fun A b s H vs Q E hr h => ?_
  obtain ⟨t, ht, q⟩ := hbody cdv A b s H vs Q E hr h
  exact ⟨t, ht.nox, q⟩
end
theorem g_par {i j : Nat} {ta : TA} {D : Ends} {σ : L2.St} {H : Hp} (q : ta σ H fun vs G => ∃ v w, vs = [v, w] ∧ D.nx ((σ.set i (some v)).set j (some w)) G) : tPar i j ta D σ H := q
theorem g_two {x y : V} {R : V → V → Prop} (q : R x y) : ∃ v w, [x, y] = [v, w] ∧ R v w := ⟨x, y, rfl, q⟩
theorem g_meet {b : Bool} {A B C : Prop} (q : C) (h1 : b = true → C → A) (h2 : b = false → C → B) : if b = true then A else B := by
  cases b with
  | true => exact h1 rfl q
  | false => exact h2 rfl q
theorem g_meetH {b : Bool} {A B : Prop} {H : Hp} {C : Hp → Prop} (q : ∀ G, Same H G → C G) (h1 : b = true → (∀ G, Same H G → C G) → A) (h2 : b = false → (∀ G, Same H G → C G) → B) : if b = true then A else B := by
  cases b with
  | true => exact h1 rfl q
  | false => exact h2 rfl q
/-! ### int of an int, a truth, a text -/
def rIntU : List V → Hp → VK → Prop := fun xs H Q => rInt1 xs H Q ∨ ∃ a n, xs = [.str a] ∧ PySem.intText? a = some n ∧ a.length ≤ 640 ∧ Q (.int n) H
theorem call_intU {X : Cx} : CallR X (.type "int") rIntU := call_int1U.or call_int_str
theorem g_intI {i : Int} {H : Hp} {Q : VK} (q : Q (.int i) H) : rIntU [.int i] H Q := .inl (.inl ⟨i, rfl, q⟩)
theorem g_intBU {b : Bool} {H : Hp} {Q : VK} (q : Q (.int (if b then 1 else 0)) H) : rIntU [.bl b] H Q := .inl (.inr ⟨b, rfl, q⟩)
theorem g_intS {a : Str} {n : Int} {H : Hp} {Q : VK} (e : PySem.intText? a = some n) (z : a.length ≤ 640) (q : Q (.int n) H) : rIntU [.str a] H Q := .inr ⟨a, n, rfl, e, z, q⟩
/-! ### what is kept -/
theorem tup_same {K : PySem.W.Frag} {H H1 : Hp} {a : Addr} {xs : List V} (e : Same H H1) (h : SqT K H a xs) : SqT K H1 a xs := by
  rcases h with (h | ⟨o, h⟩) | h
  · exact .inl (.inl (e _ _ h))
  · exact .inl (.inr ⟨o, e _ _ h⟩)
  · exact .inr h
theorem ty_same {K : PySem.W.Frag} {H H1 : Hp} {x : V} {t : Value} (e : Same H H1) (h : TyX K H x t) : TyX K H1 x t := by
  cases h with
  | base b =>
    refine .base ?_
    cases b with
    | non => exact .non
    | bl x => exact .bl x
    | int i => exact .int i
    | str x => exact .str x
    | flt x => exact .flt x
    | lst q => exact .lst (e _ _ q)
    | frz q => exact .frz (e _ _ q)
    | tup q => exact .tup (e _ _ q)
    | dK q => exact .dK (e _ _ q)
    | dT q => exact .dT (e _ _ q)
    | ins q c h1 h2 h3 h4 => exact .ins (e _ _ q) c h1 h2 h3 h4
  | byt b => exact .byt b
  | set q => exact .set (e _ _ q)
  | kList q c => exact .kList q c
  | kTuple q c => exact .kTuple q c
  | kDict q c => exact .kDict q c
  | fTuple q => exact .fTuple (e _ _ q)
  | fDict q => exact .fDict (e _ _ q)
mutual
theorem dp_same {K : PySem.W.Frag} {H H1 : Hp} (e : Same H H1) : ∀ {v : V} {d : PyData}, Dp K H v d → Dp K H1 v d
  | _, _, .non => .non
  | _, _, .bl b => .bl b
  | _, _, .int i => .int i
  | _, _, .str x => .str x
  | _, _, .lst h k => .lst (e.seq h) (da_same e k)
  | _, _, .tup h k => .tup (tup_same e h) (da_same e k)
theorem da_same {K : PySem.W.Frag} {H H1 : Hp} (e : Same H H1) : ∀ {vs : List V} {ds : List PyData}, DpAll K H vs ds → DpAll K H1 vs ds
  | _, _, .nil => .nil
  | _, _, .cons h k => .cons (dp_same e h) (da_same e k)
end
/-! ### repr of data -/
def rReprD (K : PySem.W.Frag) : List V → Hp → VK → Prop := fun xs H Q => (∃ (x : V) (d : PyData), xs = [x] ∧ Dp K H x d ∧ d.showable = true ∧ d.hasDict = false ∧ d.depth ≤ 60 ∧ d.shown.length ≤ sizeLine ∧ Q (.str d.shown) H) ∨
  ∃ a : Addr, xs = [.ref a] ∧ H a = some (.dK []) ∧ Q (.str (PyData.shown (.dict []))) H
theorem call_reprD {X : Cx} {K : PySem.W.Frag} (hK : X.K = K) (gd : X.A.guards = some []) (un : X.A.units + 64 < cLine) : CallR X (.builtin "repr") (rReprD K) := by
  subst hK
  intro pins s σ H xs us Q I r h
  rcases h with ⟨x, d, rfl, hd, sh, nd, dp, sz, q⟩ | ⟨a, rfl, ha, q⟩
  rotate_left
  · obtain ⟨u, rfl, ru⟩ := vals1 r
    obtain rfl : u = Value.ref a := ru
    obtain ⟨_, hs, vs, kv, dd⟩ : ObjOk X.prog X.w H s.heap a (.dK []) := I.hok a _ ha
    cases kv
    have rd : Reads s.heap (.ref a) (.dict []) [a] := by
      obtain ⟨o, es, ep, h1, h2, h3, h4, h5, h6⟩ := dd
      have el : es.toList = [] := by
        generalize es.toList = l at h5
        cases h5
        rfl
      exact Reads.dict (kvs := []) h1 h2.1 h3 (by rw [el]; exact .nil) (by rw [el]; exact .nil)
    exact repr_of_reads' rd rfl (fun _ hm => (beq_eq_false_iff_ne.mp hs) (List.mem_singleton.mp hm).symm) gd (by show _ + (0 + 1 + 1) < _; omega) (fun _ _ e => e) (fun h' v tk kp => ⟨.str _, H, I.kept (t' := tk) kp, ⟨_, rfl⟩, q⟩) (by decide +kernel)
  obtain ⟨u, rfl, ru⟩ := vals1 r
  cases d with
  | none => cases hd; cases (show u = Value.none from ru); exact PySem.P.repr_of_none ⟨.str _, H, I.tok _, ⟨_, rfl⟩, q⟩
  | bool b => cases hd; cases (show u = Value.bool b from ru); exact PySem.P.repr_of_bool ⟨.str _, H, I.tok _, ⟨_, rfl⟩, q⟩
  | int i =>
    cases hd
    obtain ⟨t, rfl⟩ := (show ∃ t, u = Value.int i t from ru)
    exact PySem.P.repr_of_int (of_decide_eq_true sh) ⟨.str _, H, I.tok _, ⟨_, rfl⟩, q⟩
  | str z =>
    cases hd
    obtain ⟨t, rfl⟩ := (show ∃ t, u = Value.str z t from ru)
    exact PySem.P.repr_of_str (hsz := sz) ⟨.str _, H, I.tok _, ⟨_, rfl⟩, q⟩
  | list ds =>
    obtain ⟨as, rd⟩ := Dp.reads I _ _ _ hd ru
    obtain ⟨a, rfl⟩ : ∃ a, u = .ref a := by cases rd; exact ⟨_, rfl⟩
    exact repr_of_reads' rd sh (PyData.noDict_hsm nd) gd (by omega) (fun _ _ e => e) (fun h' v tk kp => ⟨.str _, H, I.kept (t' := tk) kp, ⟨_, rfl⟩, q⟩) sz
  | tuple ds =>
    obtain ⟨as, rd⟩ := Dp.reads I _ _ _ hd ru
    obtain ⟨a, rfl⟩ : ∃ a, u = .ref a := by cases rd; exact ⟨_, rfl⟩
    exact repr_of_reads' rd sh (PyData.noDict_hsm nd) gd (by omega) (fun _ _ e => e) (fun h' v tk kp => ⟨.str _, H, I.kept (t' := tk) kp, ⟨_, rfl⟩, q⟩) sz
  | dict kvs => exact absurd nd (by simp [PyData.hasDict])
theorem g_reprD {K : PySem.W.Frag} {H : Hp} {Q : VK} {x : V} {d : PyData} (hd : Dp K H x d) (sh : d.showable = true) (nd : d.hasDict = false) (dp : d.depth ≤ 60) (sz : d.shown.length ≤ sizeLine) (q : Q (.str d.shown) H) : rReprD K [x] H Q := .inl ⟨x, d, rfl, hd, sh, nd, dp, sz, q⟩
theorem g_reprE {K : PySem.W.Frag} {H : Hp} {Q : VK} {a : Addr} (h : H a = some (.dK [])) (q : Q (.str (PyData.shown (.dict []))) H) : rReprD K [.ref a] H Q := .inr ⟨a, rfl, h, q⟩
theorem g_reprBD {K : PySem.W.Frag} {H : Hp} {Q : VK} {b : Bool} (q : Q (.str (if b then "True" else "False")) H) : rReprD K [.bl b] H Q :=
  .inl ⟨_, .bool b, rfl, .bl b, rfl, rfl, Nat.zero_le _, by cases b <;> decide +kernel, q⟩
/-! ### the law's own call -/
theorem lawG {P : Program} {w : World} {K : PySem.W.Frag} {mg mb : Str → Option Value} {CX : CXT} {k : Nat} {fa a : Addr} {fd : FuncData} {x : Str} {sp : Sp} {s₁ : Shared} {vs : List Value} {ns : List Int}
    (KX : K.In s₁.heap) (nm : s₁.heap.Ns mainGlobals mg) (nb : s₁.heap.Ns builtinsNs mb) (eb : ∀ x : Str, x ≠ "__name__" → mb x = bootBuiltins x) (lim : s₁.heap.NoLimit) (ng : s₁.gens = #[])
    (ha : s₁.heap.get? a = some { cls := .type "list", data := .seq vs.toArray }) (hi : IntsAre vs ns) (hl : ns.length ≤ sizeLine) (hr : RoomG k callerA)
    (F : ∀ base : Heap, K.In base → base.Ns mainGlobals mg → FnG P w K mg base CX k fa fd [x] sp) (bd : ∀ (s : Shared) (u : Value), BindsTo s fd ⟨[u], []⟩ [(x, u)])
    (hsp : ∀ H : Hp, Only H → SqL K H a (ns.map V.int) → sp [.ref a] H (fun v _ => v = .bl true) fun _ _ _ => False) (noX : ∀ H e s', CX [] H s₁ (fun _ _ _ => False) e s' → False) :
    codeAny (model P w) callerA (.call (.ref fa) ⟨[.ref a], []⟩) (fun r s' => r = .ok (.ret (.bool true)) ∧ OldK s₁.heap s'.heap ∧ s'.os = s₁.os ∧ AllBare s'.gens) s₁ := by
  have rv := vals_ints hi
  have lv := hi.length
  have main : ∀ H : Hp, Only H → SqL K H a (ns.map V.int) → HOk P w H s₁.heap → (∀ b, H b ≠ none → b = a ∧ K.lookup a = none) →
      codeAny (model P w) callerA (.call (.ref fa) ⟨[.ref a], []⟩) (fun r s' => r = .ok (.ret (.bool true)) ∧ OldK s₁.heap s'.heap ∧ s'.os = s₁.os ∧ AllBare s'.gens) s₁ := by
    intro H only S ok own
    have un : ∀ {b : Addr}, (b = a → K.lookup a = none → False) → H b = none := fun {b} no => by
      cases z : H b with
      | none => rfl
      | some u => exact (no (own b (by rw [z]; simp)).1 (own b (by rw [z]; simp)).2).elim
    have ns' : ∀ {b : Addr} {m : Str → Option Value}, s₁.heap.Ns b m → (hidT s₁.heap H).Ns b m := by
      rintro b m ⟨o, es, ep, e, d, r⟩
      refine ⟨o, es, ep, hidT_get e (un fun z _ => ?_), d, r⟩
      rw [z, ha] at e
      cases e
      cases (show Data.seq vs.toArray _ = Data.dict es ep from d)
    have kb : K.In (hidT s₁.heap H) := fun b o e => hidT_get (KX b o e) (un fun z n => by rw [← z, e] at n; cases n)
    have e0 : Env0 P w K mg (hidT s₁.heap H) callerA [] s₁ H := by
      obtain ⟨mc, l1, l2⟩ := lim
      exact ⟨rfl, ⟨kb, ns' nm, ⟨mb, ns' nb, eb⟩, ⟨mc, ns' l1, l2⟩⟩, fun b o e => of_hidT e, Nat.le_of_eq (hidT_size _ _), trivial, fun b z => absurd (show b ∈ ([] : List Addr) from z) (by simp), ok, .of_eq ng⟩
    refine codeAny_mono ((F _ kb (ns' nm)).goes callerA [] s₁ H ⟨[.ref a], []⟩ [.ref a] [.ref a] _ _ hr e0 (bd s₁ (.ref a)) (.cons rfl .nil) (hsp H only S)) fun r s' h => ?_
    cases r with
    | error e => exact (noX H e s' h).elim
    | ok fl =>
      cases fl with
      | next => exact h.elim
      | brk => exact h.elim
      | cont => exact h.elim
      | ret u =>
        obtain ⟨v, G, os, bare, chg, ok', r', q⟩ := h
        obtain rfl : v = .bl true := q
        obtain rfl : u = Value.bool true := r'
        refine ⟨rfl, OldK.of_keep fun b o e => ?_, os, bare⟩
        rcases only b with z | ⟨ob, xs, z⟩
        · exact chg.keep b o e z (fun y => absurd (show b ∈ ([] : List Addr) from y) (by simp)) (by simp)
        · obtain ⟨e1, _⟩ := ok b _ z
          obtain ⟨e2, _⟩ := ok' b _ (chg.frzs b ob _ z)
          rw [e] at e1
          cases e1
          exact e2
  by_cases hk : K.lookup a = none
  · have one : ∀ {b : Addr} {u : HO}, (if b = a then some (HO.frz { cls := .type "list", data := .seq vs.toArray } (.lst (ns.map V.int))) else none) = some u → b = a ∧ HO.frz { cls := .type "list", data := .seq vs.toArray } (.lst (ns.map V.int)) = u := fun {b u} z => by
      by_cases hb : b = a
      · rw [if_pos hb] at z; exact ⟨hb, Option.some.inj z⟩
      · rw [if_neg hb] at z; cases z
    refine main (fun b => if b = a then some (.frz { cls := .type "list", data := .seq vs.toArray } (.lst (ns.map V.int))) else none) (fun b => ?_) (.inl (.inr ⟨{ cls := .type "list", data := .seq vs.toArray }, if_pos rfl⟩)) (fun b u z => ?_) fun b z => ?_
    · by_cases hb : b = a
      · exact .inr ⟨_, _, if_pos hb⟩
      · exact .inl (if_neg hb)
    · obtain ⟨rfl, rfl⟩ := one z
      exact ⟨ha, by rw [List.length_map]; exact hl, vs, _, rv, ha⟩
    · refine ⟨?_, hk⟩
      by_cases hb : b = a
      · exact hb
      · exact absurd (if_neg hb) z
  · obtain ⟨o, e⟩ := Option.ne_none_iff_exists'.mp hk
    have e2 := KX a o e
    rw [ha] at e2
    cases e2
    exact main (fun _ => none) (fun _ => .inl rfl) (.inr ⟨_, vs.toArray, _, e, rfl, rfl, rfl, by rw [List.size_toArray, lv]; exact hl, by simpa using rv⟩) (fun b u z => nomatch z) (fun b z => absurd rfl z)
theorem roomG_caller {k : Nat} (h : Room k callerA) : RoomG k callerA := ⟨h, rfl⟩
theorem walkG {l : PySem.W.OpenLaw} {n k : Nat} {q : Program} {loose : List Str} {XP : (Str → Option Value) → Heap → Prop} {YP : World → Heap → Prop} {d : DefRec} {K : Params → PySem.W.Frag} {CX : World → CXT} {sp : World → Sp} {x : Str}
    (hn : l.most = some n) (hn2 : n ≤ sizeLine) (hdf : d.params.defaults = []) (hr : Room k callerA) (hY : ∀ (w : World) (h : Heap), YP w h → (K w.params).In h)
    (F : ∀ (w : World) (mg : Str → Option Value) (fa : Addr) (h : Heap), (K w.params).In h → h.Ns mainGlobals mg → mg d.name = some (.ref fa) →
      ∃ fd : FuncData, (∀ (s : Shared) (u : Value), BindsTo s fd ⟨[u], []⟩ [(x, u)]) ∧ ∀ base : Heap, (K w.params).In base → base.Ns mainGlobals mg → FnG l.prog w (K w.params) mg base (CX w) k fa fd [x] (sp w))
    (hsp : ∀ (w : World) (H : Hp) (a : Addr) (ns : List Int), ns.length ≤ n → Only H → SqL (K w.params) H a (ns.map V.int) → sp w [.ref a] H (fun v _ => v = .bl true) fun _ _ _ => False)
    (noX : ∀ (w : World) (H : Hp) (s : Shared) (e : Value) (s' : Shared), CX w [] H s (fun _ _ _ => False) e s' → False) : PySem.W.WalkO q loose XP YP l.row.toRowW d [] (fun f vs => PySem.call f vs) := by
  refine Att.attach_call hn hdf fun w s₀ s₁ mg mb fa o pm cd doc a vs ns G Y ho hd hcd hmg hobj hints hlen ng => ?_
  have KX := hY w _ Y
  obtain ⟨fd, bd, hF⟩ := F w mg fa _ KX G.T.g hmg
  exact lawG KX G.T.g G.T.b G.T.builtins G.T.nolimit ng hobj hints (Nat.le_trans hlen hn2) (roomG_caller hr) hF bd (fun H only S => hsp w H a ns hlen only S) fun H e s' => noX w H s₁ e s'
end Hx

namespace Hx
open PySem PySem.Spec PyProof.Rows L2
/-- a builtin exception class under which own classes stand -/
structure EB where
  B : String
  newId : String
  initId : String
  bm : List Value
structure EBok (b : EB) : Prop where
  exc : ExcBaseFacts b.B b.newId b.initId b.bm
  st : StoreFacts b.B b.bm "object.__setattr__" "object"
abbrev ebV : EB := ⟨"ValueError", "ValueError.__new__", "ValueError.__init__", [.type "ValueError", .type "Exception", .type "BaseException", .type "object"]⟩
abbrev ebI : EB := ⟨"IndexError", "IndexError.__new__", "IndexError.__init__", [.type "IndexError", .type "LookupError", .type "Exception", .type "BaseException", .type "object"]⟩
abbrev ebO : EB := ⟨"OverflowError", "OverflowError.__new__", "OverflowError.__init__", [.type "OverflowError", .type "ArithmeticError", .type "Exception", .type "BaseException", .type "object"]⟩
abbrev ebR : EB := ⟨"RuntimeError", "RuntimeError.__new__", "RuntimeError.__init__", [.type "RuntimeError", .type "Exception", .type "BaseException", .type "object"]⟩
theorem ebV_ok : EBok ebV := ⟨F.excBase_ValueError, F.store_ValueError⟩
theorem ebI_ok : EBok ebI := ⟨F.excBase_IndexError, F.store_IndexError⟩
theorem ebO_ok : EBok ebO := ⟨F.excBase_OverflowError, F.store_OverflowError⟩
theorem ebR_ok : EBok ebR := ⟨F.excBase_RuntimeError, F.store_RuntimeError⟩
/-- what the written part says of an own exception class at C -/
structure Xc (K : PySem.W.Frag) (b : EB) (C : Addr) : Prop where
  im : PySem.W.excInitIn K C b.bm b.newId = true
  ov : PySem.W.excOver K C b.bm = true
  hd : PySem.W.hasDictIn K C = true
  sa : PySem.W.findIn K (.ref C) "__setattr__" = some (some (.builtin "object.__setattr__"))
  ga : PySem.W.findIn K (.ref C) "__getattribute__" = some (some (.builtin "BaseException.__getattribute__"))
  gg : PySem.W.findIn K (.ref C) "__getattr__" = some none
  exC : PySem.W.subIn K (.ref C) (.type "BaseException") = some true
  tyC : PySem.W.typeIn K (.ref C) = some (.type "type")
  kC : PySem.W.keepIn K (.ref C) = true
  cl : PySem.W.findIn K (.ref C) "__class__" = some (some (.builtin "object.__class__"))
  gs : PySem.W.specialIn K (.builtin "object.__class__") "__get__" = some (some (.builtin "getset_descriptor.__get__"))
  tk : PySem.W.takesIn K (.builtin "object.__class__") = some true
  mo : PySem.W.mroIn K C (.type "object") = some true
theorem Xc.xf {K : PySem.W.Frag} {b : EB} {C : Addr} (T : Xc K b C) : XfC K C := ⟨T.ga, T.gg, T.exC, T.hd⟩
section
variable {pr : Program} {w : World} {A : Around} {R : Result → Shared → Prop} {hp : Heap} {g : Array GenState} {dw : Drawn} {t : Nat} {os : OsState} {K : PySem.W.Frag} {b : EB}
abbrev exOb (C t1 : Addr) (d : Option Addr) : Obj := { cls := .ref C, dict := d, data := .fields #[.ref t1, .none, .none, .none, .bool false, .none] }
theorem sto1 (F : EBok b) {C x t1 : Addr} {nm : Str} {tk : Tok} {v : Value} (T : Xc K b C) (Y : K.In hp) (hx : hp.get? x = some (exOb C t1 none)) (ht : PySem.W.takerIn K C nm = some none)
    (hq : ∀ h' tk' dx, (∀ c o, c ≠ x → hp.get? c = some o → h'.get? c = some o) → hp.objs.size ≤ dx → dx ≠ x → h'.get? x = some (exOb C t1 (some dx)) →
      h'.Ns1 dx (fun y => if y = nm then some v else none) → R (.ok (.ret .none)) ⟨h', g, dw, tk', os⟩) :
    codeAny (model pr w) A (.call (.builtin "object.__setattr__") ⟨[.ref x, .str nm tk, v], []⟩) R ⟨hp, g, dw, t, os⟩ := by
  have lx : x ≠ hp.objs.size := Nat.ne_of_lt (Heap.lt_size hx)
  refine PySem.W.osa_openX (od := none) F.st Y ⟨hx, rfl, rfl, trivial⟩ T.ov ht fun bb => ?_
  obtain ⟨cd, ec, eh⟩ := PySem.W.any_some T.hd
  refine wpAny_bind (wpAny_pure (wpAny_bind (PySem.W.instanceDict_exc hx (PySem.W.looks_clsIn Y ec) eh ?_)))
  refine PySem.HandSPX.store_in_new ?_ fun h' tk' n' s' => ?_
  · exact ⟨_, #[], _, (Heap.get?_update_ne _ _ _ _ lx.symm).trans (Heap.get?_push_at rfl rfl), rfl, fun e he => absurd he (by simp), fun _ => rfl⟩
  · have x1 : (hp.push (PySem.W.dictOf [] 0)).get? x = some (exOb C t1 none) := Heap.get?_push_of_some _ hx
    refine hq h' tk' hp.objs.size (fun c o hc ho => ?_) (Nat.le_refl _) lx.symm ?_ n'
    · exact (s'.2 c (Nat.ne_of_lt (Heap.lt_size ho))).trans ((Heap.get?_update_ne _ _ _ _ hc).trans (Heap.get?_push_of_some _ ho))
    · exact (s'.2 x lx).trans (Heap.get?_update_self _ x1 rfl)
theorem sto2 (F : EBok b) {C x t1 dx : Addr} {nm : Str} {tk : Tok} {v : Value} {m0 : Str → Option Value} {nl : List Str} (T : Xc K b C) (Y : K.In hp) (hx : hp.get? x = some (exOb C t1 (some dx))) (hn : hp.Ns1 dx m0) (hw : Within m0 nl) (hz : nl.length ≤ 1000)
    (ht : PySem.W.takerIn K C nm = some none)
    (hq : ∀ h' tk', (∀ c o, c ≠ dx → hp.get? c = some o → h'.get? c = some o) → h'.Ns1 dx (fun y => if y = nm then some v else m0 y) → R (.ok (.ret .none)) ⟨h', g, dw, tk', os⟩) :
    codeAny (model pr w) A (.call (.builtin "object.__setattr__") ⟨[.ref x, .str nm tk, v], []⟩) R ⟨hp, g, dw, t, os⟩ := by
  obtain ⟨oD, esD, epD, hoD, hdD, _⟩ := hn.count hw
  refine PySem.W.osa_openX (od := some oD) F.st Y ⟨hx, rfl, rfl, hoD⟩ T.ov ht fun bb => ?_
  obtain ⟨cd, ec, eh⟩ := PySem.W.any_some T.hd
  refine wpAny_bind (wpAny_pure (wpAny_bind (wpAny_bind (wpAny_loadPart hx (wpAny_bind ((PySem.W.looks_clsIn Y ec).here ?_))))))
  rw [eh]
  refine wpAny_pure (a := some dx) ?_
  exact PySem.OEX.store_in_old hn hw hz fun h' tk' n' s' => hq h' tk' (fun c o hc ho => (s'.2 c hc).trans ho) n'
end
section
variable {X : Cx} {b : EB} {pins : List (Addr × Obj)} {σ : L2.St} {H : Hp} {s : Shared} {a C dx : Addr} {f : Str} {y : V} {u : Value} {fs : List (Str × V)} {Q : Unit → Shared → Prop} {E : Value → Shared → Prop} {A : Around}
/-- the first field -/
theorem fld1 (F : EBok b) (T : Xc X.K b C) (J : Inv X pins σ H s) (e : H a = some (exo a C none)) (hno : PySem.W.takerIn X.K C f = some none) (ry : RelV y u)
    (go : ∀ dx s', H dx = none → dx ≠ a → Inv X pins σ (upd (upd H dx (exd dx [(f, y)])) a (exo a C (some dx))) s' → Q () s') : wpAny (model X.prog X.w) A (setAttr (.ref a) f u) Q E s := by
  obtain ⟨t1, ho⟩ := exo_at J.hok e
  obtain ⟨hp, g, d, t, os⟩ := s
  refine PySem.W.set_plain J.kIn (ox := exOb C t1 none) (od := none) ⟨ho, rfl, rfl, trivial⟩ T.sa ?_
  refine sto1 F T J.kIn ho hno fun h' tk' dx kp dn dne hx hn => ?_
  have fr : H dx = none := J.hok.fresh dn
  have old : ∀ {c : Addr} {o : Obj}, hp.get? c = some o → c ≠ dx := fun {c o} z => Nat.ne_of_lt (Nat.lt_of_lt_of_le (Heap.lt_size z) dn)
  have oth : ∀ {c : Addr}, H c = none → c ≠ a := fun {c} n z => by rw [z, e] at n; cases n
  refine go dx _ fr dne (J.un (t' := tk') ⟨?_, ?_, ?_, ?_, ?_, ?_, ?_⟩ fun c o z => ?_)
  · exact fun c o z n _ _ => kp c o (oth n) z
  · exact fun c o z n _ _ => ⟨o.slots, kp c o (oth n) z⟩
  · exact fun c o z n _ => by rw [upd_ne (oth n), upd_ne (old z)]; exact n
  · intro c o z _
    by_cases hc : c = a
    · exact ⟨_, hc ▸ hx⟩
    · exact ⟨o, kp c o hc z⟩
  · exact fun c xs z => by rw [upd_ne (at_ne e z exo_tup), upd_ne (ne_of_none z fr)]; exact z
  · exact fun c o v z => by rw [upd_ne (at_ne e z exo_frz), upd_ne (ne_of_none z fr)]; exact z
  · exact fun c ps z => ⟨#[], by rw [upd_ne (at_ne e z exo_tbl), upd_ne (ne_of_none z fr), z]; simp⟩
  · by_cases hc : c = a
    · subst hc; rw [upd_same] at z; cases z; exact exo_ok hx
    rw [upd_ne hc] at z
    by_cases hd : c = dx
    · subst hd; rw [upd_same] at z; cases z; exact exd_ok hn (relO_put (fs := []) ry fun _ => True.intro)
    rw [upd_ne hd] at z
    refine (J.hok c o z).stay (fun i v hi q => kp i v ?_ q) (fun i hi => ?_) (fun i xs hi => ?_)
    · rcases hi with hi | hi
      · exact hi ▸ hc
      · exact at_ne e hi exo_own
    · rw [upd_ne (at_ne e hi exo_own), upd_ne (ne_of_none hi fr)]; exact hi
    · rw [upd_ne (at_ne e hi exo_tup), upd_ne (ne_of_none hi fr)]; exact hi
/-- a further field -/
theorem fld2 (F : EBok b) (T : Xc X.K b C) (J : Inv X pins σ H s) (e : H a = some (exo a C (some dx))) (ed : H dx = some (exd dx fs)) (hl : fs.length ≤ 900) (hno : PySem.W.takerIn X.K C f = some none) (ry : RelV y u)
    (go : ∀ s', Inv X pins σ (upd H dx (exd dx ((f, y) :: fs))) s' → Q () s') : wpAny (model X.prog X.w) A (setAttr (.ref a) f u) Q E s := by
  obtain ⟨t1, ho⟩ := exo_at J.hok e
  obtain ⟨mA, hns, rl⟩ := exd_at J.hok ed
  have hw := within_of rl
  obtain ⟨hp, g, d, t, os⟩ := s
  obtain ⟨oD, _, _, hoD, _, _⟩ := hns.count hw
  refine PySem.W.set_plain J.kIn (ox := exOb C t1 (some dx)) (od := some oD) ⟨ho, rfl, rfl, hoD⟩ T.sa ?_
  refine sto2 F T J.kIn ho hns hw (by rw [List.length_map]; omega) hno fun h' tk' kp n' => ?_
  obtain ⟨oN, _, _, eN, _⟩ := id n'
  exact go _ (J.write (t' := tk') (x := dx) (e := dx) (o := exd dx ((f, y) :: fs)) (by rw [ed]; exact True.intro) (.inl rfl) kp ⟨oN, eN⟩ (exd_ok n' (relO_put ry rl)))
/-- the builtin's __init__ on it -/
theorem bini {us : List Value} {Q : Value → Shared → Prop} (F : EBok b) (T : Xc X.K b C) (J : Inv X pins σ H s) (e : H a = some (exo a C none)) (hl : us.length ≤ sizeLine) (go : ∀ s', Inv X pins σ H s' → Q .none s') :
    wpAny (model X.prog X.w) A (call (.builtin b.initId) (.ref a :: us)) Q E s := by
  obtain ⟨nm, N, qn, bs, bm, hdct, sn, sub, ab, col, dd, k0, k1, k2, k3, k5, hC, hT⟩ := PySem.W.excInit_of J.kIn T.im
  obtain ⟨t1, ho⟩ := exo_at J.hok e
  obtain ⟨hp, g, d, t, os⟩ := s
  refine wpAny_call (PySem.HandSPX.init_base F.exc hT hC ho hl fun h' t2 kp hx => ?_)
  have J2 := J.write (t' := t) (x := a) (e := a) (o := exo a C none) (by rw [e]; exact True.intro) (.inl rfl) kp ⟨_, hx⟩ (exo_ok hx)
  have same : upd H a (exo a C none) = H := funext fun c => by
    by_cases hc : c = a
    · rw [hc, upd_same, e]
    · rw [upd_ne hc]
  rw [same] at J2
  exact go _ J2
end
/-! ### readings and rules: own exceptions made -/
def tIni (K : PySem.W.Frag) (b : EB) (ta : TA) : TE := fun σ H Q => ta σ H fun vs G => ∃ (a C : Addr) (ws : List V), vs = .ref a :: ws ∧ ws.length ≤ 1000 ∧ Xc K b C ∧ G a = some (exo a C none) ∧ Q .non G
def tFld (K : PySem.W.Frag) (b : EB) (f : Str) (to te : TE) : TS := fun D σ H => te σ H fun y G => to σ G fun x J => ∃ a C : Addr, x = .ref a ∧ Xc K b C ∧ PySem.W.takerIn K C f = some none ∧
  ((J a = some (exo a C none) ∧ ∀ dx, J dx = none → dx ≠ a → D.nx σ (upd (upd J dx (exd dx [(f, y)])) a (exo a C (some dx)))) ∨
    ∃ (dx : Addr) (fs : List (Str × V)), J a = some (exo a C (some dx)) ∧ J dx = some (exd dx fs) ∧ fs.length ≤ 900 ∧ D.nx σ (upd J dx (exd dx ((f, y) :: fs))))
section
variable {X : Cx} {b : EB} {o e : Expr} {es : List Expr} {to te : TE} {ta : TA} {f : Str} {p' p1 p2 pos : Pos} {pl : Sem Bool}
/-- what lies behind both ways to BASE.__init__(self, ..) -/
theorem ini_call (F : EBok b) (ha : PA X (e :: es) ta) {pins : List (Addr × Obj)} {s : Shared} {σ : L2.St} {H : Hp} {Q : VK} (J : Inv X pins σ H s) (h : tIni X.K b ta σ H Q)
    (he : starEach (e :: es) X.env = (false, eval e X.env) :: starEach es X.env) (hpl : (backTo pos (starEach es X.env)).any (·.1) = false) :
    wpAny (model X.prog X.w) X.A (callWith pos (.builtin b.initId) [] (backTo pos (starEach (e :: es) X.env)) []) (EP X pins σ Q) X.xe s := by
  refine PyProof.Rows.callWith_method1 (thn (ha.run pos pins s σ H _ J h) fun us s1 hh => ?_) he hpl
  obtain ⟨vs, G, J1, r1, a, C, ws, ev, hl, T, ea, q⟩ := hh
  subst ev
  cases r1 with
  | @cons _ u0 _ ur ra rr =>
    obtain rfl : u0 = Value.ref a := ra
    have big : ur.length ≤ sizeLine := by rw [← Paired.length rr, sizeLine_eq]; omega
    exact bini F T J1 ea big fun s' J2 => ⟨.non, G, J2, rfl, q⟩
theorem pe_iniB {n : Str} (F : EBok b) (hh : PySem.W.handedIn (.builtin b.initId) = true) (hg : Gl X n) (hm : X.mg n = none) (bo : bootBuiltins n = some (.type b.B)) (ty : typeOf (.type b.B) = pure (.type "type")) (stb : Manifest.isStub b.B = false)
    (vV : PySem.W.findCls X.K (.type b.B) (.type "type") "__init__" = some (.val (.builtin b.initId))) (ha : PA X (e :: es) ta)
    (hc : eval (.Call (.Attribute (.Name n p1) "__init__" p2) (e :: es) [] pos) X.env = (do
      let ov ← eval (.Name n p1) X.env
      standAt p2.atName
      let (f, first) ← holding [ov] (getMethod ov "__init__" pl)
      callWith pos f first (backTo pos (starEach (e :: es) X.env)) (backToKw pos (keywordEach [] X.env))) := by rfl)
    (n1 : n ≠ "__name__" := by decide) (n2 : (n == ("__debug__" : Str)) = false := by decide)
    (he : starEach (e :: es) X.env = (false, eval e X.env) :: starEach es X.env := by rfl) (hpl : (backTo pos (starEach es X.env)).any (·.1) = false := by rfl) :
    PE X (.Call (.Attribute (.Name n p1) "__init__" p2) (e :: es) [] pos) (tIni X.K b ta) := by
  refine ⟨fun pins s σ H Q J h => ?_⟩
  refine PySem.W.methodCall_KW (ld_blt J hg hm bo ?_ n1 n2) hc
  obtain ⟨m, fr⟩ := J.fr
  exact PySem.W.method_type fr J.ok.mod.kin ty stb vV hh (ini_call F ha (J.tok _) h he hpl)
theorem pe_iniC {n : Str} {B0 : Addr} (F : EBok b) (hh : PySem.W.handedIn (.builtin b.initId) = true) (hg : Gl X n) (hm : X.mg n = some (.ref B0)) (hs : PySem.W.specialIn X.K (.ref B0) "__getattribute__" = some (some (.builtin "type.__getattribute__"))) (hr : PySem.W.readsIn X.K B0 (.type "type") = true)
    (vV : PySem.W.findCls X.K (.ref B0) (.type "type") "__init__" = some (.val (.builtin b.initId))) (ha : PA X (e :: es) ta)
    (hc : eval (.Call (.Attribute (.Name n p1) "__init__" p2) (e :: es) [] pos) X.env = (do
      let ov ← eval (.Name n p1) X.env
      standAt p2.atName
      let (f, first) ← holding [ov] (getMethod ov "__init__" pl)
      callWith pos f first (backTo pos (starEach (e :: es) X.env)) (backToKw pos (keywordEach [] X.env))) := by rfl)
    (n2 : (n == ("__debug__" : Str)) = false := by decide)
    (he : starEach (e :: es) X.env = (false, eval e X.env) :: starEach es X.env := by rfl) (hpl : (backTo pos (starEach es X.env)).any (·.1) = false := by rfl) :
    PE X (.Call (.Attribute (.Name n p1) "__init__" p2) (e :: es) [] pos) (tIni X.K b ta) := by
  refine ⟨fun pins s σ H Q J h => ?_⟩
  refine PySem.W.methodCall_KW (ld_glob J hg hm ?_ n2) hc
  exact PySem.W.method_cls J.kIn hs (PySem.W.cls_value J.kIn hr vV hh (ini_call F ha (J.tok _) h he hpl))
/-- self.f = e -/
theorem ps_fld (F : EBok b) (ho : PE X o to) (he : PE X e te) (hs : swapsWith e (some (.Attribute o f p')) pos.line X.env = pure false := by rfl) : PS X (.Assign [.Attribute o f p'] e pos) (tFld X.K b f to te) := by
  refine ⟨fun pins s σ H D J h => ?_⟩
  refine plainObj_wpAny_Assign_Attribute (thn (he.run pins s σ H _ J h) fun v s1 hv => ?_) hs
  obtain ⟨y, G, J1, r1, q1⟩ := hv
  refine thn (ho.run pins s1 σ G _ J1 q1) fun u s2 hu => ?_
  obtain ⟨x, G2, J2, r2, a, C, ex, T, hno, q⟩ := hu
  subst ex
  obtain rfl : u = Value.ref a := r2
  rcases q with ⟨ea, q⟩ | ⟨dx, fs, ea, ed, hl, q⟩
  · exact fld1 F T J2 ea hno r1 fun dx s' n ne J3 => ⟨σ, _, J3, q dx n ne⟩
  · exact fld2 F T J2 ea ed hl hno r1 fun s' J3 => ⟨σ, _, J3, q⟩
end
/-- what __init__(self, v) with the one field f keeps -/
def sp_in1 (C : Addr) (f : Str) : Sp := fun vs H Q _ => ∃ (a : Addr) (v : V), vs = [.ref a, v] ∧ H a = some (exo a C none) ∧ ∀ dx, H dx = none → dx ≠ a → Q .non (upd (upd H dx (exd dx [(f, v)])) a (exo a C (some dx)))
/-- with two fields -/
def sp_in2 (C : Addr) (f f2 : Str) : Sp := fun vs H Q _ => ∃ (a : Addr) (v v2 : V), vs = [.ref a, v, v2] ∧ H a = some (exo a C none) ∧
  ∀ dx, H dx = none → dx ≠ a → Q .non (upd (upd (upd H dx (exd dx [(f, v)])) a (exo a C (some dx))) dx (exd dx [(f2, v2), (f, v)]))
section
variable {X : Cx} {e : Expr} {es : List Expr} {ta : TA} {f f2 : Str} {p pos : Pos}
theorem pmk_x {CX : CXT} {x : Str} {b : EB} {C fI : Addr} {k : Nat} {fd : FuncData} {ps : List Str} {sp : Sp} (F : EBok b) (T : Xc X.K b C) (iC : PySem.W.findIn X.K (.ref C) "__init__" = some (some (.ref fI))) (tI : PySem.W.typeIn X.K (.ref fI) = some (.type "function"))
    (G1 : FnG X.prog X.w X.K X.mg X.base CX k fI fd ps sp) (hr : RoomG (k + 1) X.A) (hb : Binds X.K fd ps []) (hx : Passes CX X (fun _ _ _ => False)) (hg : Gl X x) (hm : X.mg x = some (.ref C)) (ha : PA X (e :: es) ta)
    (n2 : (x == ("__debug__" : Str)) = false := by decide) (he : starEach (e :: es) X.env = (false, eval e X.env) :: starEach es X.env := by rfl) (hpl : (backTo pos (starEach es X.env)).any (·.1) = false := by rfl) :
    PMk X (.Call (.Name x p) (e :: es) [] pos) (tMkO C sp [] ta) := by
  intro pins s σ H Q J h
  refine wpAny_Call_Name_kw (ld_glob J hg hm ?_ n2)
  refine PySem.W.callWith_K (h₀ := X.base) J.ok.mod.kin T.kC (thn (ha.run pos pins s σ H _ J h) fun us s1 hh => ?_) he hpl
  obtain ⟨vs, H1, J1, r1, hz, q1⟩ := hh
  refine ⟨J1.kIn, ?_⟩
  show wpAny _ _ (call (.ref C) us) _ _ _
  obtain ⟨nm, N, qn, bs, bm, hdct, sn, sub, ab, col, dd, k0, k1, k2, k3, k5, hC, hT⟩ := PySem.W.excInit_of J1.kIn T.im
  obtain ⟨hp, g, dr, tk, os⟩ := s1
  have up1 : hp.objs.size ≤ hp.objs.size + 1 := Nat.le_succ _
  have hq := q1 (hp.objs.size + 1) (J1.hok.fresh up1)
  have kp : ∀ c o, hp.get? c = some o → ((hp.push (PySem.W.kdv_tup us)).push (PySem.HandSPX.excO C hp.objs.size)).get? c = some o := fun c o z => Heap.get?_push_of_some _ (Heap.get?_push_of_some _ z)
  have at1 : ((hp.push (PySem.W.kdv_tup us)).push (PySem.HandSPX.excO C hp.objs.size)).get? (hp.objs.size + 1) = some (PySem.HandSPX.excO C hp.objs.size) := by heap_get
  have J2 := J1.laid (t' := tk) (a := hp.objs.size + 1) (o := exo (hp.objs.size + 1) C none) kp up1 (exo_ok at1)
  have r2 : Vals (V.ref (hp.objs.size + 1) :: (vs ++ [])) (Value.ref (hp.objs.size + 1) :: (us ++ [])) := .cons rfl (r1.append .nil)
  have el : (Value.ref (hp.objs.size + 1) :: us ++ []).length = ps.length := by
    have z := r2.length
    rw [G1.many _ _ _ _ hq] at z
    exact z.symm
  have eu : us.length ≤ sizeLine := by rw [← Paired.length r1, sizeLine_eq]; omega
  refine wpAny_call (PySem.HandSPX.call_own F.exc hT hC (PySem.W.looks_findIn J1.kIn iC) (fun self => PySem.W.bind_fn J1.kIn self tI) eu ?_)
  have bd := hb ⟨(hp.push (PySem.W.kdv_tup us)).push (PySem.HandSPX.excO C hp.objs.size), g, dr, tk, os⟩ (Value.ref (hp.objs.size + 1) :: us) J2.kIn el
  rw [List.append_nil] at bd r2 hq
  rw [List.append_nil] at r2
  refine codeAny_mono (G1.goes _ X.stack _ _ ⟨Value.ref (hp.objs.size + 1) :: us, []⟩ (Value.ref (hp.objs.size + 1) :: us) _ _ (fun _ _ _ => False) (hr.make C us []) (J2.env0.make C us []) bd r2 hq) fun r s' hq' => ?_
  cases r with
  | error er => exact hx pins σ _ _ er s' J2 hq'
  | ok fl =>
    cases fl with
    | next => exact hq'.elim
    | brk => exact hq'.elim
    | cont => exact hq'.elim
    | ret u =>
      obtain ⟨v, H2, os2, bare2, un2, hok2, rv, ev, d, fs, ea, ed, hd1, q2⟩ := hq'
      subst ev
      obtain ⟨h2, g2, d2, t2, os'⟩ := s'
      exact ⟨rv, mk_end (raises_own T.exC T.tyC) J1 up1 kp un2 hok2 os2 bare2 ea ed hd1 q2⟩
theorem g_mkO {C : Addr} {sp : Sp} {ta : TA} {σ : L2.St} {H : Hp} {Q : XK} (h : ta σ H fun vs G => vs.length ≤ 1000 ∧ ∀ a, G a = none → sp (.ref a :: (vs ++ [])) (upd G a (exo a C none))
    (fun v J => v = .non ∧ ∃ (d : Addr) (fs : List (Str × V)), J a = some (exo a C (some d)) ∧ J d = some (exd d fs) ∧ G d = none ∧ Q (.ref C) (some d) (upd (del J a) d (.xd fs))) (fun _ _ _ => False)) : tMkO C sp [] ta σ H Q := h
theorem g_mk1 {C : Addr} {v : V} {G : Hp} {Q : XK} (q : ∀ d, G d = none → Q (.ref C) (some d) (upd G d (.xd [(f, v)]))) : ([v] : List V).length ≤ 1000 ∧ ∀ a, G a = none → sp_in1 C f (.ref a :: ([v] ++ [])) (upd G a (exo a C none))
    (fun v J => v = .non ∧ ∃ (d : Addr) (fs : List (Str × V)), J a = some (exo a C (some d)) ∧ J d = some (exd d fs) ∧ G d = none ∧ Q (.ref C) (some d) (upd (del J a) d (.xd fs))) (fun _ _ _ => False) := by
  refine ⟨by simp, fun a na => ⟨a, v, rfl, upd_same, fun dx nd ne => ⟨rfl, dx, [(f, v)], upd_same, by rw [upd_ne ne, upd_same], ?_, ?_⟩⟩⟩
  · rw [upd_ne ne] at nd; exact nd
  · rw [upd_ne ne] at nd
    have z : upd (del (upd (upd (upd G a (exo a C none)) dx (exd dx [(f, v)])) a (exo a C (some dx))) a) dx (.xd [(f, v)]) = upd G dx (.xd [(f, v)]) := funext fun c => by
      by_cases c1 : c = dx
      · rw [c1, upd_same, upd_same]
      · rw [upd_ne c1, upd_ne c1]
        by_cases c2 : c = a
        · rw [c2, del_same, na]
        · rw [del_ne c2, upd_ne c2, upd_ne c1, upd_ne c2]
    rw [z]; exact q dx nd
theorem g_mk2 {C : Addr} {v v2 : V} {G : Hp} {Q : XK} (q : ∀ d, G d = none → Q (.ref C) (some d) (upd G d (.xd [(f2, v2), (f, v)]))) : ([v, v2] : List V).length ≤ 1000 ∧ ∀ a, G a = none → sp_in2 C f f2 (.ref a :: ([v, v2] ++ [])) (upd G a (exo a C none))
    (fun v J => v = .non ∧ ∃ (d : Addr) (fs : List (Str × V)), J a = some (exo a C (some d)) ∧ J d = some (exd d fs) ∧ G d = none ∧ Q (.ref C) (some d) (upd (del J a) d (.xd fs))) (fun _ _ _ => False) := by
  refine ⟨by simp, fun a na => ⟨a, v, v2, rfl, upd_same, fun dx nd ne => ⟨rfl, dx, [(f2, v2), (f, v)], by rw [upd_ne (Ne.symm ne), upd_same], upd_same, ?_, ?_⟩⟩⟩
  · rw [upd_ne ne] at nd; exact nd
  · rw [upd_ne ne] at nd
    have z : upd (del (upd (upd (upd (upd G a (exo a C none)) dx (exd dx [(f, v)])) a (exo a C (some dx))) dx (exd dx [(f2, v2), (f, v)])) a) dx (.xd [(f2, v2), (f, v)]) = upd G dx (.xd [(f2, v2), (f, v)]) := funext fun c => by
      by_cases c1 : c = dx
      · rw [c1, upd_same, upd_same]
      · rw [upd_ne c1, upd_ne c1]
        by_cases c2 : c = a
        · rw [c2, del_same, na]
        · rw [del_ne c2, upd_ne c1, upd_ne c2, upd_ne c1, upd_ne c2]
    rw [z]; exact q dx nd
end
/-! ### try: .. except A as e: .. except B as e: .. -/
abbrev Clause := Value × Option Nat × (Addr → Value → Option Addr → TS)
def endAs (D : Ends) (i : Nat) : Ends :=
  let z : (L2.St → Hp → Prop) → L2.St → Hp → Prop := fun k τ G => k (τ.set i none) G
  { nx := z D.nx, rt := D.rt, bk := z D.bk, ct := z D.ct }
def clauseRun (D : Ends) (oi : Option Nat) (t : TS) (a : Addr) (σ : L2.St) (H : Hp) : Prop :=
  match oi with
  | none => t D σ H
  | some i => t (endAs D i) (σ.set i (some (.ref a))) H
def wN (K : PySem.W.Frag) (Wo : WX) (D : Ends) : List Clause → WX
  | [] => Wo
  | (c, oi, ts) :: l => fun cls d σ H => ∃ yes, PySem.W.exmOne K cls c = some yes ∧ (yes = true → ∀ a, H a = none → clauseRun D oi (ts a cls d) a σ H) ∧ (yes = false → wN K Wo D l cls d σ H)
inductive Hnd (X : Cx) : List ExceptHandler → List Clause → Prop
  | nil : Hnd X [] []
  | bare {x : Str} {c : Value} {ts : Addr → Value → Option Addr → TS} {q : Stmt} {qs : List Stmt} {p1 p2 : Pos} {hs : List ExceptHandler} {l : List Clause} (nm : Names X x c)
      (run : ∀ (a : Addr) (oe : Obj) (cls : Value) (d : Option Addr) (pn : List (Addr × Obj)), Zc cls d oe → (∃ vs, oe.data = .fields vs) → PSs (X.suite a ((a, oe) :: pn)) (q :: qs) (ts a cls d)) (r : Hnd X hs l) :
      Hnd X (.ExceptHandler (some (.Name x p1)) none (q :: qs) p2 :: hs) ((c, none, ts) :: l)
  | as {x n : Str} {i : Nat} {c : Value} {ts : Addr → Value → Option Addr → TS} {q : Stmt} {qs : List Stmt} {p1 p2 : Pos} {hs : List ExceptHandler} {l : List Clause} (nm : Names X x c) (nd : X.N.Nodup) (hi : X.N[i]? = some n) (hl : X.env.kindOf n = some .local)
      (run : ∀ (a : Addr) (oe : Obj) (cls : Value) (d : Option Addr) (pn : List (Addr × Obj)), Zc cls d oe → (∃ vs, oe.data = .fields vs) → PSs (X.suite a ((a, oe) :: pn)) (q :: qs) (ts a cls d)) (r : Hnd X hs l) :
      Hnd X (.ExceptHandler (some (.Name x p1)) (some n) (q :: qs) p2 :: hs) ((c, some i, ts) :: l)
section
variable {X : Cx} {body : List Stmt} {h1 : ExceptHandler} {hs : List ExceptHandler} {l : List Clause} {pos : Pos} {tb : WX → TS} {Wo : WX}
theorem ps_tryN (st : X.stack = X.env :: X.outer) (fr : X.env.frame = some X.env.locals) (tk : Takes X Wo)
    (hb : ∀ (W : WX) (pn : List (Addr × Obj)) (xe : Value → Shared → Prop), Takes (X.tr pn xe) W → PassesOwn (model X.prog X.w) X.A X.env xe → PSs (X.tr pn xe) body (tb W)) (hh : Hnd X (h1 :: hs) l) : PS X (.Try body (h1 :: hs) [] [] pos) (fun D σ H => tb (wN X.K Wo D l) D σ H) := by
  refine ⟨fun pins s σ H D J h => ?_⟩
  have ok := J.ok
  have fr2 : X.A.frames = some (X.env :: X.outer) := by rw [ok.frames, st]
  let catch_ : Value → Shared → Prop := fun e s₁ => wpAny (model X.prog X.w) X.A (noteFrame e X.env) (fun _ s₂ =>
    wpAny (model X.prog X.w) X.A (setFlight e none) (fun _ s₃ => wpAny (model X.prog X.w) X.A (handleBy e X.env (h1 :: hs)) (SP X pins D) X.xe s₃) X.xe s₂) X.xe s₁
  refine wpAny_Try_except ?_
  refine wpAny_mono ((hb (wN X.K Wo D l) (X.pn ++ pins) catch_ ?tk PassesOwn.looking).run [] s σ H D (J.toTry _) h) ?fine fun _ _ z => z
  case fine =>
    intro f s1 sp
    cases f with
    | ret u => obtain ⟨v, τ, G, J1, r, q⟩ := sp; exact ⟨v, τ, G, J1.ofTry ok, r, q⟩
    | next => obtain ⟨τ, G, J1, q⟩ := sp; exact wpAny_execs_nil ⟨τ, G, J1.ofTry ok, q⟩
    | brk => obtain ⟨τ, G, J1, q⟩ := sp; exact ⟨τ, G, J1.ofTry ok, q⟩
    | cont => obtain ⟨τ, G, J1, q⟩ := sp; exact ⟨τ, G, J1.ofTry ok, q⟩
  case tk =>
    intro u s' xx
    obtain ⟨a, B, sI, pins', σ', H', cls, d, rfl, J', nb, up, sky, na, os, ag, w⟩ := xx
    have J0 : Inv X pins σ' H' sI := J'.ofTry ok
    rw [show (X.tr (X.pn ++ pins) catch_).stack = X.env :: X.outer from st] at sky
    show wpAny (model X.prog X.w) X.A (noteFrame (.ref a) X.env) _ _ _
    refine Sky.land Zc.steady fr2 fr sky fun k3 fl3 up3 => ?_
    have J3 : Inv X pins σ' H' { s' with heap := k3 } := J0.landed nb fl3.1 (up.trans up3) os ag
    obtain ⟨o3, v3, e3, z3, d3⟩ := fl3.there
    have out : a ∉ frs (X.env :: X.outer) := fun hm => by
      obtain ⟨_, o', e', hn⟩ := fl3.2.2.1.mem hm
      rw [e3] at e'; cases e'
      exact hn _ d3
    have nL : a ≠ X.env.locals := fun z => out (List.mem_filterMap.mpr ⟨X.env, List.mem_cons_self, by rw [fr, z]⟩)
    have nF : a ∉ X.fs := fun hm => by
      obtain ⟨e, he, q⟩ := List.mem_filterMap.mp hm
      exact out (List.mem_filterMap.mpr ⟨e, List.mem_cons_of_mem _ he, q⟩)
    have S3 := J3.suite e3 d3 na nL nF
    have ask : ∀ {x : Str} {c : Value} {np : Pos} {Q : Value → Shared → Prop} {E : Value → Shared → Prop}, Names X x c → Q c { s' with heap := k3 } → wpAny (model X.prog X.w) (X.A.mark (some (.ref a))) (eval (.Name x np) X.env) Q E { s' with heap := k3 } := by
      intro x c np Q E nm q
      obtain ⟨hg, hdbg, hm | ⟨hm, hv, hnn⟩⟩ := nm
      · exact ld_glob (X := X.suite a ((a, o3) :: (X.pn ++ pins))) S3 hg hm q hdbg
      · exact ld_blt (X := X.suite a ((a, o3) :: (X.pn ++ pins))) S3 hg hm hv q hnn hdbg
    have ty3 : PySem.W.Looks (model X.prog X.w) k3 (typeOf (.ref a)) cls := fun A Q E s k q => wpAny_typeOf_ref (k _ _ e3) (by rw [z3.1]; exact q)
    have all : ∀ {hs' : List ExceptHandler} {l' : List Clause}, Hnd X hs' l' → wN X.K Wo D l' cls d σ' H' → wpAny (model X.prog X.w) X.A (handleBy (.ref a) X.env hs') (SP X pins D) X.xe { s' with heap := k3 } := by
      intro hs' l' hk
      induction hk with
      | nil =>
        intro w
        refine wpAny_handleBy_nil ?_
        obtain ⟨_, _, _, oe, vs, T, oT, ts', he, hz, hd, hv1, hr⟩ := id fl3
        unfold PySem.passOn
        refine wpAny_bind (wpAny_field he hd hv1 ?_)
        rw [if_neg (show ¬ ((Value.ref T == Value.none) = true) from by simp)]
        have last : wpAny (model X.prog X.w) X.A (setFlight (.ref a) X.env.frame) (fun _ s4 => wpAny (model X.prog X.w) X.A (throw (.ref a) : Sem Flow) (SP X pins D) X.xe s4) X.xe { s' with heap := k3 } := by
          rw [fr]
          refine HandSPX.setFlight_upZ fl3 fun k4 hk4 up4 => wpAny_throw (tk _ _ ?_)
          exact ⟨a, B, sI, pins, σ', H', cls, d, rfl, J0, nb, (up.trans up3).trans up4, .inr (.inr (by rw [st]; exact hk4)), na, os, ag, w⟩
        first
          | exact wpAny_bind (wpAny_pure (wpAny_bind last))
          | exact wpAny_bind last
      | @bare x c ts q qs p1 p2 hs2 l2 nm run r ih =>
        intro w
        obtain ⟨yes, hy, w1, w2⟩ := w
        refine wpAny_handleBy_cons (codeAny_handlers_test ?_) (by intro q; cases q)
        refine ask nm ((PySem.W.exm_one (M := model X.prog X.w) J3.kIn ty3 hy).here ?_)
        cases yes with
        | false => exact ih (w2 rfl)
        | true =>
          refine codeAny_handlers_suite ?_
          refine HandSPX.lands_againZ fl3 fun k4 fl4 up4 => ?_
          have J4 : Inv X pins σ' H' { s' with heap := k4 } := J0.landed nb fl4.1 ((up.trans up3).trans up4) os ag
          obtain ⟨o4, v4, e4, z4, d4⟩ := fl4.there
          have S4 := J4.suite e4 d4 na nL nF
          refine wpAny_mono ((run a o4 cls d (X.pn ++ pins) z4 ⟨_, d4⟩).run [] _ _ H' _ S4 (w1 rfl a na)) (fun f s6 sp => ?_) (fun _ _ z => False.elim z)
          cases f with
          | ret u => obtain ⟨v6, τ, G, S6, r6, q6⟩ := sp; exact ⟨_, _, _, S6.unsuite ok, r6, q6⟩
          | next => obtain ⟨τ, G, S6, q6⟩ := sp; exact ⟨_, _, S6.unsuite ok, q6⟩
          | brk => obtain ⟨τ, G, S6, q6⟩ := sp; exact ⟨_, _, S6.unsuite ok, q6⟩
          | cont => obtain ⟨τ, G, S6, q6⟩ := sp; exact ⟨_, _, S6.unsuite ok, q6⟩
      | @as x n i c ts q qs p1 p2 hs2 l2 nm nd hi hl run r ih =>
        intro w
        obtain ⟨yes, hy, w1, w2⟩ := w
        refine wpAny_handleBy_cons (codeAny_handlers_test ?_) (by intro q; cases q)
        refine ask nm ((PySem.W.exm_one (M := model X.prog X.w) J3.kIn ty3 hy).here ?_)
        cases yes with
        | false => exact ih (w2 rfl)
        | true =>
          refine codeAny_handlers_suite_as ?_
          refine HandSPX.lands_againZ fl3 fun k4 fl4 up4 => ?_
          have J4 : Inv X pins σ' H' { s' with heap := k4 } := J0.landed nb fl4.1 ((up.trans up3).trans up4) os ag
          obtain ⟨o4, v4, e4, z4, d4⟩ := fl4.there
          have S4 := J4.suite e4 d4 na nL nF
          refine store_ok (X := X.suite a ((a, o4) :: (X.pn ++ pins))) (v := .ref a) S4 nd hi (Or.inl hl) rfl (fun s5 S5 => ?_) (.inr hl)
          refine wpAny_mono ((run a o4 cls d (X.pn ++ pins) z4 ⟨_, d4⟩).run [] s5 _ H' _ S5 (w1 rfl a na)) (fun f s6 sp => ?_) (fun _ _ z => False.elim z)
          have fin : ∀ {τ : L2.St} {G : Hp} {Q : Shared → Prop}, Inv (X.suite a ((a, o4) :: (X.pn ++ pins))) [] τ G s6 → (∀ s7, Inv X pins (τ.set i none) G s7 → Q s7) →
              wpAny (model X.prog X.w) X.A (do bindName X.env n .none; unbindBehindTheSuite X.env n p2) (fun _ s7 => Q s7) X.xe s6 := fun S6 hq => gone_ok (S6.unsuite ok) nd hi hl hq
          cases f with
          | ret u => obtain ⟨v6, τ, G, S6, r6, q6⟩ := sp; exact fin S6 fun s7 J7 => ⟨_, _, _, J7, r6, q6⟩
          | next => obtain ⟨τ, G, S6, q6⟩ := sp; exact fin S6 fun s7 J7 => ⟨_, _, J7, q6⟩
          | brk => obtain ⟨τ, G, S6, q6⟩ := sp; exact fin S6 fun s7 J7 => ⟨_, _, J7, q6⟩
          | cont => obtain ⟨τ, G, S6, q6⟩ := sp; exact fin S6 fun s7 J7 => ⟨_, _, J7, q6⟩
    exact all hh w
end
/-! ### in a suite: isinstance(e, c), e.f -/
def rIsX (K : PySem.W.Frag) (D a : Addr) (cls : Value) (d : Option Addr) : List V → Hp → VK → Prop := fun xs G Q => ∃ (c : V) (cv : Value) (ans : Bool) (dd : Addr) (fs : List (Str × V)), xs = [.ref a, c] ∧ cls = .ref D ∧ (∀ u, RelV c u → u = cv) ∧ PySem.W.kitOne K (.ref D) cv = some ans ∧ d = some dd ∧ G dd = some (.xd fs) ∧ Q (.bl ans) G
theorem call_isX {X : Cx} {b : EB} {a D : Addr} {oe : Obj} {cls : Value} {d : Option Addr} {pn : List (Addr × Obj)} (T : Xc X.K b D) (hz : Zc cls d oe) (hf : ∃ vs, oe.data = .fields vs) : CallR (X.suite a ((a, oe) :: pn)) (.builtin "isinstance") (rIsX X.K D a cls d) := by
  intro pins s σ H xs us Q J r h
  obtain ⟨c, cv, ans, dd, fs, rfl, rfl, hcv, e, rfl, hx, q⟩ := h
  cases r with
  | cons rx rr =>
    cases rr with
    | cons rt rr =>
      cases rr
      cases rx
      cases hcv _ rt
      obtain ⟨at1, _⟩ := J.pin (a, oe) (List.mem_append.mpr (.inl List.mem_cons_self))
      obtain ⟨vs, hv⟩ := hf
      obtain ⟨mA, hns, hr⟩ : ObjOk X.prog X.w H s.heap dd (.xd fs) := J.hok dd _ hx
      obtain ⟨od, ho, _⟩ := lookIn_ns hns
      have I : PySem.W.InstAt s.heap a oe D (some od) := ⟨at1, hz.1, by unfold PySem.W.notCls; rw [hv] <;> rfl, by rw [hz.2]; exact ho⟩
      have hcl : (PySem.W.clsIn X.K D).isSome = true := by
        obtain ⟨cd, hc, _⟩ := PySem.W.any_some T.hd
        rw [hc]; rfl
      exact PySem.W.kia_one (PySem.W.kitx_exc hcl T.ga T.gg T.exC T.cl T.gs T.tk T.mo) J.kIn I e (fun z => nomatch z) fun tk => ⟨.bl ans, H, J.kept (t' := tk) fun _ _ z => z, rfl, q⟩
theorem g_xf {a : Addr} {cls : Value} {d : Option Addr} {C : Addr} {f : Str} {te : TE} {σ : L2.St} {H : Hp} {Q : VK} (h : te σ H fun x G => x = .ref a ∧ cls = .ref C ∧ ∃ (dd : Addr) (fs : List (Str × V)) (v : V), d = some dd ∧ G dd = some (.xd fs) ∧ fs.lookup f = some v ∧ Q v G) : tXf a cls d C f te σ H Q := h
theorem g_xf1 {a C dd : Addr} {f : Str} {v : V} {G : Hp} {R : V → Prop} (hd : G dd = some (.xd [(f, v)])) (q : R v) : V.ref a = .ref a ∧ Value.ref C = .ref C ∧ ∃ (d2 : Addr) (fs : List (Str × V)) (v2 : V), some dd = some d2 ∧ G d2 = some (.xd fs) ∧ fs.lookup f = some v2 ∧ R v2 :=
  ⟨rfl, rfl, dd, _, v, rfl, hd, by simp [List.lookup], q⟩
theorem g_ini {K : PySem.W.Frag} {b : EB} {ta : TA} {σ : L2.St} {H : Hp} {Q : VK} (h : ta σ H fun vs G => ∃ (a C : Addr) (ws : List V), vs = .ref a :: ws ∧ ws.length ≤ 1000 ∧ Xc K b C ∧ G a = some (exo a C none) ∧ Q .non G) : tIni K b ta σ H Q := h
theorem g_sfld {K : PySem.W.Frag} {b : EB} {f : Str} {to te : TE} {D : Ends} {σ : L2.St} {H : Hp} (h : te σ H fun y G => to σ G fun x J => ∃ a C : Addr, x = .ref a ∧ Xc K b C ∧ PySem.W.takerIn K C f = some none ∧
  ((J a = some (exo a C none) ∧ ∀ dx, J dx = none → dx ≠ a → D.nx σ (upd (upd J dx (exd dx [(f, y)])) a (exo a C (some dx)))) ∨
    ∃ (dx : Addr) (fs : List (Str × V)), J a = some (exo a C (some dx)) ∧ J dx = some (exd dx fs) ∧ fs.length ≤ 900 ∧ D.nx σ (upd J dx (exd dx ((f, y) :: fs))))) : tFld K b f to te D σ H := h
theorem taker_of {K : PySem.W.Frag} {C : Addr} {f : Str} (h : PySem.W.findIn K (.ref C) f = some none) : PySem.W.takerIn K C f = some none := by unfold PySem.W.takerIn; rw [h]; rfl
theorem g_clause {D : Ends} {i : Nat} {t : TS} {a : Addr} {σ : L2.St} {H : Hp} (h : t (endAs D i) (σ.set i (some (.ref a))) H) : clauseRun D (some i) t a σ H := h
theorem g_clause0 {D : Ends} {t : TS} {a : Addr} {σ : L2.St} {H : Hp} (h : t D σ H) : clauseRun D none t a σ H := h
/-- the clause that takes it; one that does not -/
theorem wn_yes {K : PySem.W.Frag} {Wo : WX} {D : Ends} {c : Value} {oi : Option Nat} {ts : Addr → Value → Option Addr → TS} {l : List Clause} {cls : Value} {d : Option Addr} {σ : L2.St} {H : Hp} (e : PySem.W.exmOne K cls c = some true)
    (h : ∀ a, H a = none → clauseRun D oi (ts a cls d) a σ H) : wN K Wo D ((c, oi, ts) :: l) cls d σ H := ⟨true, e, fun _ => h, fun z => by cases z⟩
theorem wn_no {K : PySem.W.Frag} {Wo : WX} {D : Ends} {c : Value} {oi : Option Nat} {ts : Addr → Value → Option Addr → TS} {l : List Clause} {cls : Value} {d : Option Addr} {σ : L2.St} {H : Hp} (e : PySem.W.exmOne K cls c = some false)
    (h : wN K Wo D l cls d σ H) : wN K Wo D ((c, oi, ts) :: l) cls d σ H := ⟨false, e, (fun z => nomatch z), fun _ => h⟩
end Hx

namespace PySem
open AutoSeq1 (wpAny_loadPart')
theorem hx_enum_new (l : Addr) (items : Array Value) (n : Nat) (dct : Option Addr) (sl : Array (Option Value)) :
    Meets (Builtin.«enumerate.__new__» ⟨[.type "enumerate", .ref l], []⟩) (fun _ R s => s.heap.get? l = some { cls := .type "tuple", dict := dct, data := .seq items n, slots := sl } ∧
      R (.ok (.ret (.ref (s.heap.push { cls := .type "tuple_iterator", data := .fields #[.ref l, .int 0 0] }).objs.size)))
        { s with heap := (s.heap.push { cls := .type "tuple_iterator", data := .fields #[.ref l, .int 0 0] }).push { cls := .type "enumerate", data := .fields #[.none, .bool false, .ref s.heap.objs.size, rawInt 0, .none, .none] } }) :=
  .of_wp fun prog w A R s h => by
    obtain ⟨hp, g, d, tk, os⟩ := s
    obtain ⟨ht, h⟩ := h
    have sub := sub_enumerate
    have T : Heap.IsTuple (Shared.heap ⟨hp, g, d, tk, os⟩) l items := ⟨_, ht, rfl, n, rfl⟩
    wp_walk using wpAny_loadPart' ht
    refine wpAny_stack_any fun st => wpAny_pure ?_
    split
    · rename_i c _ _ _ _ _
      cases (c == Value.type "enumerate") <;> (wp_walk using wpAny_loadPart' ht, wpAny_pyIter_tuple T) <;> exact ⟨_, rfl, h⟩
    · wp_walk using wpAny_loadPart' ht, wpAny_pyIter_tuple T
      exact ⟨_, rfl, h⟩
theorem hx_enum_call {prog : Program} {w : World} {A : Around} {E : Value → Shared → Prop} {s : Shared} {l : Addr} {items : Array Value} {Q : Value → Shared → Prop} (T : s.heap.IsTuple l items)
    (h : ∀ h', IsEnum h' (s.heap.objs.size + 1) s.heap.objs.size 0 .none → h'.IsTupleIter s.heap.objs.size l 0 → h'.objs.size = s.heap.objs.size + 2 → (∀ b o, s.heap.get? b = some o → h'.get? b = some o) → Q (.ref (s.heap.objs.size + 1)) { s with heap := h' }) :
    wpAny (model prog w) A (call (.type "enumerate") [.ref l]) Q E s := by
  obtain ⟨⟨c, dct, dt, sl⟩, hl, rfl, n, rfl⟩ := T
  refine callType_new F.called_enumerate (by decide) (F.typeCall_enumerate_1 _) (F.newCall_enumerate_1 _) (fun obj => F.args_object_init_2 obj _) F.entry_enumerate_new (hx_enum_new l items n dct sl) ⟨hl, ?_⟩
  have z : (s.heap.push { cls := .type "tuple_iterator", data := .fields #[.ref l, .int 0 0] }).objs.size = s.heap.objs.size + 1 := Heap.size_push ..
  show _ ∧ _
  rw [z]
  have E1 : IsEnum ((s.heap.push { cls := .type "tuple_iterator", data := .fields #[.ref l, .int 0 0] }).push { cls := .type "enumerate", data := .fields #[.none, .bool false, .ref s.heap.objs.size, rawInt 0, .none, .none] })
      (s.heap.objs.size + 1) s.heap.objs.size 0 .none := by
    have y := Heap.get?_push_size (s.heap.push { cls := .type "tuple_iterator", data := .fields #[.ref l, .int 0 0] }) (o := { cls := .type "enumerate", data := .fields #[.none, .bool false, .ref s.heap.objs.size, rawInt 0, .none, .none] }) rfl
    rw [z] at y
    exact y
  exact ⟨⟨_, E1, rfl⟩, h _ E1 ⟨_, Heap.get?_push_of_some _ (Heap.get?_push_size _ rfl), rfl, rfl⟩ (by rw [Heap.size_push, z]) fun b o x => Heap.get?_push_of_some _ (Heap.get?_push_of_some _ x)⟩
end PySem
namespace Hx
open PySem PySem.Spec PyProof.Rows L2
/-! ### enumerate of a tuple -/
def IteT (K : PySem.W.Frag) (a : Addr) : It :=
  ⟨fun i H => ∃ (xs : List V) (x : V), SqT K H a xs ∧ xs[i]? = some x, fun i H v H' => ∃ T x, v = .ref T ∧ H T = none ∧ H' = upd H T (.tup [.int (i : Nat), x]) ∧ ∀ xs, SqT K H a xs → xs[i]? = some x, fun i H => ∃ xs : List V, SqT K H a xs ∧ xs.length ≤ i⟩
theorem turn_enT {P : Program} {w : World} {K : PySem.W.Frag} {elts : List Expr} {kk : Nat} {tpos : Pos} (a e it : Addr) :
    Turn P w K (.Tuple elts kk tpos) (IteT K a) [e, it] e (fun i h => (∃ old, IsEnum h e it ((i : Nat) : Int) old) ∧ h.IsTupleIter it a i ∧ e ≠ it ∧ e ≠ a ∧ a ≠ it) where
  mem := by simp
  obj := fun i h st b hb => by
    obtain ⟨⟨old, he⟩, ⟨o, ho, hc, hd⟩, _⟩ := st
    rcases (show b = e ∨ b = it by simpa using hb) with z | z
    · rw [z]; exact ⟨_, he, fun v q => nomatch q⟩
    · rw [z]; exact ⟨o, ho, fun v q => by rw [hd] at q; cases q⟩
  keep := fun i h h' st k => let ⟨⟨old, he⟩, hi, hne⟩ := st; ⟨⟨old, k e (by simp) _ he⟩, hi.at fun o q => k it (by simp) o q, hne⟩
  item := by
    intro X hP hw hK hc i pins s σ H E I hf st hg
    subst hP hw hK
    obtain ⟨⟨old, he⟩, hit, n1, n2, n3⟩ := st
    obtain ⟨xs, x, hq, hx⟩ := hg
    obtain ⟨its, rv, p, hz⟩ := I.tuple hq
    obtain ⟨u, hu, ru⟩ := rv.get hx
    have le : e < s.heap.objs.size := Heap.lt_size he
    have li : it < s.heap.objs.size := by obtain ⟨_, q, _⟩ := hit; exact Heap.lt_size q
    have lt : i < its.toArray.size := by
      have := (List.getElem?_eq_some_iff.mp hu).1
      simpa using this
    refine wpAny_pyNext_enum_itemD (Draws.tuple (A := X.A.in1) (I.ok.hd hc) it a n3 its.toArray) he ⟨hit, p⟩ lt n1 (by simp [n1, n2]) fun x' h' tk hP ho st2 hT hsz hk => ?_
    obtain rfl : x' = u := Option.some.inj (hP.symm.trans (by simpa using hu))
    refine ⟨_, rfl, wpAny_letOwnedTupleGo_enum (s := { s with heap := h', toks := tk + 1 }) ho fun h'' he' sb => ?_⟩
    have hT2 : h''.get? s.heap.objs.size = some { cls := .type "tuple", data := .seq #[.int i tk, x'] } := (sb.2 _ (Nat.ne_of_gt le)).trans hT
    have new : ObjOk X.prog X.w (upd H s.heap.objs.size (.tup [.int (i : Nat), x])) h'' s.heap.objs.size (.tup [.int (i : Nat), x]) :=
      ⟨by show 2 ≤ sizeLine; decide, [.int i tk, x'], .cons ⟨_, rfl⟩ (.cons ru .nil), ⟨_, hT2, rfl, _, rfl⟩⟩
    have I1 : Inv X pins σ (upd H s.heap.objs.size (.tup [.int (i : Nat), x])) { s with heap := h'', toks := tk + 1 } :=
      I.turnedNew (ch := [e, it]) (fun b ob hb q => (sb.2 b (fun z => hb (by simp [z]))).trans (hk b ob (fun z => hb (by simp [z])) (fun z => hb (by simp [z])) q)) hf (Nat.le_refl _) new
    refine ⟨.ref s.heap.objs.size, _, I1, rfl, ⟨_, x, rfl, I.hok.fresh (Nat.le_refl _), rfl, fun ys hy => by rw [I.tuple_inj hy hq]; exact hx⟩, ⟨⟨x', ?_⟩, st2.1.at fun o q => (sb.2 it (Ne.symm n1)).trans q, n1, n2, n3⟩, fun b hb => ?_⟩
    · rw [show ((i + 1 : Nat) : Int) = (i : Int) + 1 by omega]; exact he'
    · have lb : b < s.heap.objs.size := by
        rcases (show b = e ∨ b = it by simpa using hb) with z | z
        · rw [z]; exact le
        · rw [z]; exact li
      rw [upd_ne (Nat.ne_of_lt lb)]
      exact (hf b hb).1
  done := by
    intro X hP hw hK hc i pins s σ H E I hf st hg
    subst hP hw hK
    obtain ⟨⟨old, he⟩, hit, n1, n2, n3⟩ := st
    obtain ⟨xs, hq, hx⟩ := hg
    obtain ⟨its, rv, p, hz⟩ := I.tuple hq
    obtain ⟨f0, f1, f2, f3, f4, f5⟩ := hf it (by simp)
    have hl := rv.length
    have st' : s.heap.IsTupleIter it a i ∧ s.heap.IsTuple a its.toArray := ⟨hit, p⟩
    refine wpAny_pyNext_enum_endD (n := its.toArray.size) (i := i) (St := fun j h => h.IsTupleIter it a i ∧ h.IsTuple a its.toArray ∧ j = its.toArray.size) (P := fun _ _ => False) (fp := [it, a]) ?_ he ⟨hit, p, rfl⟩ fun h' eb => ⟨rfl, I.turned (t' := s.toks) (fun b o hb q => eb b o hb q) f0 f1 f3 f4 f5⟩
    exact { live := fun _ _ st => (let ⟨o, ho, _⟩ := st.1; ⟨o, ho⟩), frame := fun _ _ _ st hk => ⟨st.1.at fun o e => hk it (by simp) o e, st.2.1.at fun o e => hk a (by simp) o e, st.2.2⟩,
            item := fun j s Q E hj st hQ => absurd st.2.2 (Nat.ne_of_lt hj),
            done := fun s Q E st hE => wpAny_nextOf_tuple_end (I.ok.hd hc) st.1 st.2.1 (by simp; omega) hE }
  self := fun A i s Q E st h => let ⟨⟨_, he⟩, _⟩ := st; wpAny_pyIter_enum he h
/-- enumerate of a list or of a tuple -/
def iEnA (K : PySem.W.Frag) (ta : TA) : TI := fun σ H R => ta σ H fun vs H1 => (∃ a xs, vs = [.ref a] ∧ SqL K H1 a xs ∧ R (Ite K a) H1) ∨ ∃ a xs, vs = [.ref a] ∧ SqT K H1 a xs ∧ R (IteT K a) H1
theorem pi_enA {X : Cx} {K : PySem.W.Frag} {e : Expr} {ta : TA} {p pos tpos : Pos} {elts : List Expr} {kk : Nat} (hK : X.K = K) (hg : Gl X "enumerate") (hm : X.mg "enumerate" = none) (ha : PA X [e] ta) (hs : starEach [e] X.env = [(false, eval e X.env)] := by rfl) :
    PI X (.Tuple elts kk tpos) (.Call (.Name "enumerate" p) [e] [] pos) (iEnA K ta) := by
  subst hK
  refine ⟨fun pins s σ H R I h => ?_⟩
  refine Call_ (ld_blt I hg hm boot_enumerate (PyProof.Rows.callWith_type1 (thn (ha.run pos pins s σ H _ I h) fun us s1 hh => ?_) hs rfl))
  obtain ⟨vs, H1, I1, r1, q1⟩ := hh
  have fresh2 : ∀ b ∈ [s1.heap.objs.size + 1, s1.heap.objs.size], s1.heap.objs.size ≤ b := fun b hb => by
    rcases (show b = s1.heap.objs.size + 1 ∨ b = s1.heap.objs.size by simpa using hb) with z | z <;> omega
  rcases q1 with ⟨a, xs, rfl, hq, q⟩ | ⟨a, xs, rfl, hq, q⟩
  · cases r1 with
    | cons r rr =>
      cases rr; cases r
      obtain ⟨its, rv, p', hz⟩ := I1.list hq
      refine call_enumerate_list p'.isList fun h' he hit hsz hk => wpAny_pyIter_enum he ?_
      exact ⟨s1.heap.objs.size + 1, [s1.heap.objs.size + 1, s1.heap.objs.size], _, _, H1, rfl, I1.kept (t' := s1.toks) hk, turn_enum a (s1.heap.objs.size + 1) s1.heap.objs.size, ⟨⟨.none, he⟩, hit, Nat.succ_ne_self _⟩,
        fun b hb => I1.fpOk (fresh2 b hb) (I1.hok.fresh (fresh2 b hb)), q⟩
  · cases r1 with
    | cons r rr =>
      cases rr; cases r
      obtain ⟨its, rv, p', hz⟩ := I1.tuple hq
      refine hx_enum_call p' fun h' he hit hsz hk => wpAny_pyIter_enum he ?_
      have la : a < s1.heap.objs.size := by obtain ⟨o, ho, _⟩ := p'; exact Heap.lt_size ho
      exact ⟨s1.heap.objs.size + 1, [s1.heap.objs.size + 1, s1.heap.objs.size], _, _, H1, rfl, I1.kept (t' := s1.toks) hk, turn_enT a (s1.heap.objs.size + 1) s1.heap.objs.size, ⟨⟨.none, he⟩, hit, Nat.succ_ne_self _, Nat.ne_of_gt (Nat.lt_succ_of_lt la), Nat.ne_of_lt la⟩,
        fun b hb => I1.fpOk (fresh2 b hb) (I1.hok.fresh (fresh2 b hb)), q⟩
theorem walk_enT {K : PySem.W.Frag} {a : Addr} {xs : List V} : Walk (IteT K a) xs.length (fun H => SqT K H a xs) (YPair (fun i => some (.int (i : Nat))) (fun i => xs[i]?)) := by
  refine ⟨fun i _ hi q => ⟨xs, xs[i], q, by simp [hi]⟩, fun _ q => ⟨xs, q, Nat.le_refl _⟩, fun i H v H' _ q y => ?_⟩
  obtain ⟨T, x, h1, h2, h3, h4⟩ := y
  exact ⟨T, .int (i : Nat), x, h1, h2, h3, rfl, h4 xs q⟩
theorem g_iEnA {K : PySem.W.Frag} {ta : TA} {σ : L2.St} {H : Hp} {R : It → Hp → Prop} (q : ta σ H fun vs H1 => (∃ a xs, vs = [.ref a] ∧ SqL K H1 a xs ∧ R (Ite K a) H1) ∨ ∃ a xs, vs = [.ref a] ∧ SqT K H1 a xs ∧ R (IteT K a) H1) : iEnA K ta σ H R := q
theorem g_enSq {K : PySem.W.Frag} {H0 H : Hp} {a : Addr} {xs : List V} {ta : TA} {σ : L2.St} {R : It → Hp → Prop} (e : ∀ Q : List V → Hp → Prop, Q [.ref a] H → ta σ H Q) (h : Sq K H0 a xs) (e0 : Same H0 H)
    (q : ∀ J G, Walk J xs.length G (YPair (fun i => some (.int (i : Nat))) (fun i => xs[i]?)) → (∀ H', Same H0 H' → G H') → R J H) : iEnA K ta σ H R :=
  e _ (h.elim (fun h => .inl ⟨a, xs, rfl, sq_same e0 h, q _ _ walk_enum fun _ e => sq_same e h⟩) fun h => .inr ⟨a, xs, rfl, st_same e0 h, q _ _ walk_enT fun _ e => st_same e h⟩)
/-- the type of a list or a tuple -/
theorem sq_type {K : PySem.W.Frag} {H : Hp} {a : Addr} {xs : List V} (h : Sq K H a xs) : ∃ t, TyX K H (.ref a) t ∧ (t = .type "list" ∨ t = .type "tuple") := by
  rcases h with ((h | ⟨o, h⟩) | h) | ((h | ⟨o, h⟩) | h)
  · exact ⟨_, .base (.lst h), .inl rfl⟩
  · exact ⟨_, .base (.frz h), .inl rfl⟩
  · obtain ⟨o, vs, n, e, c, _⟩ := h; exact ⟨_, .kList e c, .inl rfl⟩
  · exact ⟨_, .base (.tup h), .inr rfl⟩
  · exact ⟨_, .fTuple h, .inr rfl⟩
  · obtain ⟨o, vs, n, e, c, _⟩ := h; exact ⟨_, .kTuple e c, .inr rfl⟩
/-! ### data that is alike -/
theorem g_neR {K : PySem.W.Frag} {H : Hp} {Q : VK} {x y : V} {d : PyData} (hd : Dp K H x d) (he : Dp K H y d) (s : SeqAt.shaped d = true) (q : Q (.bl false) H) : rNeU K x y H Q :=
  g_neD hd he s s (by rw [SeqAt.eqv_refl d (SeqAt.canLay_of_shaped s)]; exact q)
theorem g_eqR {K : PySem.W.Frag} {H : Hp} {Q : VK} {x y : V} {d : PyData} (hd : Dp K H x d) (he : Dp K H y d) (s : SeqAt.shaped d = true) (q : Q (.bl true) H) : rEqU K x y H Q :=
  g_eqD hd he s s (by rw [SeqAt.eqv_refl d (SeqAt.canLay_of_shaped s)]; exact q)
/-- a text's signs are signs -/
def okS (z : Str) : Prop := (z.cps.all fun c => decide (c < 0x110000)) = true
theorem lay_str {z : Str} (h : okS z) : (PyData.str z).canLay0 = true := h
theorem lay_nil : PyData.canLayAll0 [] = true := rfl
theorem lay_cons {d : PyData} {ds : List PyData} (h : d.canLay0 = true) (k : PyData.canLayAll0 ds = true) : PyData.canLayAll0 (d :: ds) = true := by rw [PyData.canLayAll0, h, k]; rfl
theorem shape_list {ds : List PyData} (h : PyData.canLayAll0 ds = true) (k : PyData.depthAll ds ≤ 63) : SeqAt.shaped (.list ds) = true := by
  unfold SeqAt.shaped
  rw [PyData.canLay0, h, Bool.true_and]
  exact decide_eq_true (by rw [PyData.depth]; omega)
theorem shape_tuple {ds : List PyData} (h : PyData.canLayAll0 ds = true) (k : PyData.depthAll ds ≤ 63) : SeqAt.shaped (.tuple ds) = true := by
  unfold SeqAt.shaped
  rw [PyData.canLay0, h, Bool.true_and]
  exact decide_eq_true (by rw [PyData.depth]; omega)
/-! ### dicts laid -/
theorem g_dnew {σ : L2.St} {H : Hp} {Q : VK} (q : ∀ p, H p = none → Q (.ref p) (upd H p (.dK []))) : tDNewK σ H Q := q
theorem g_disp {trs : List (TE × TE)} {σ : L2.St} {H : Hp} {Q : VK} (q : ∀ p, H p = none → tPairs trs σ (upd H p (.dK [])) fun ps H2 => H2 p = some (.dK []) ∧ ∃ kvs : List (Key × V), ps = kvs.map (fun kv => (kV kv.1, kv.2)) ∧ kvs.length ≤ 15 ∧ Q (.ref p) (upd H2 p (.dK (mergeK [] kvs)))) : tDisp trs σ H Q := q
/-! ### slices of lists -/
theorem cutV_to {xs : List V} {k : Nat} : cutV xs none (some (k : Int)) = xs.take k := by
  unfold cutV
  rw [HT.sIx_none, HT.sIx_nat, List.drop_zero, Nat.sub_zero]
  by_cases h : k ≤ xs.length
  · rw [Nat.min_eq_left h]
  · rw [Nat.min_eq_right (by omega), List.take_of_length_le (Nat.le_refl _), List.take_of_length_le (by omega)]
theorem cutV_from {xs : List V} {k : Nat} : cutV xs (some (k : Int)) none = xs.drop k := by
  unfold cutV
  rw [HT.sIx_none, HT.sIx_nat]
  by_cases h : k ≤ xs.length
  · rw [Nat.min_eq_left h, List.take_of_length_le (by rw [List.length_drop]; exact Nat.le_refl _)]
  · rw [Nat.min_eq_right (by omega), List.drop_of_length_le (Nat.le_refl _), List.drop_of_length_le (by omega), List.take_nil]
/-! ### list of a text -/
theorem vals_signs {z : Str} {acc : Array Value} (h : ItemsOf (SignAt z) acc z.cps.size) : Vals (z.cps.toList.map fun c => V.str ⟨#[c]⟩) acc.toList := by
  obtain ⟨hn, hi⟩ := h
  have key : ∀ (l : List Nat) (vs : List Value), l.length = vs.length → (∀ (j : Nat) (v : Value), vs[j]? = some v → ∃ (c : Nat) (u : Tok), l[j]? = some c ∧ v = Value.str ⟨#[c]⟩ u) → Vals (l.map fun c => V.str ⟨#[c]⟩) vs := by
    intro l
    induction l with
    | nil =>
      intro vs e _
      cases vs with
      | nil => exact .nil
      | cons v r => cases e
    | cons c l ih =>
      intro vs e hv
      cases vs with
      | nil => cases e
      | cons v r =>
        obtain ⟨c', u, e1, e2⟩ := hv 0 v rfl
        cases e1
        exact .cons ⟨u, e2⟩ (ih r (by simpa using e) fun j v h => hv (j + 1) v h)
  refine key _ _ (by rw [Array.length_toList, Array.length_toList, hn]) fun j v h => ?_
  obtain ⟨c, u, e1, e2⟩ := hi j v (by rw [← Array.getElem?_toList]; exact h)
  exact ⟨c, u, by rw [Array.getElem?_toList]; exact e1, e2⟩
def rListS : List V → Hp → VK → Prop := fun xs H Q => ∃ z, xs = [.str z] ∧ z.length ≤ 1000000 ∧ ∀ p, H p = none → Q (.ref p) (upd H p (.lst (z.cps.toList.map fun c => V.str ⟨#[c]⟩)))
theorem call_listS {X : Cx} (hc : X.calm = true) : CallR X (.type "list") rListS := by
  intro pins s σ H xs us Q I r h
  obtain ⟨z, rfl, hz, q⟩ := h
  obtain ⟨u, rfl, rx⟩ := vals1 r
  obtain ⟨t, rfl⟩ := (show ∃ t, u = Value.str z t from rx)
  have sz : z.cps.size ≤ sizeLine := by rw [sizeLine_eq]; have : z.cps.size ≤ 1000000 := hz; omega
  refine call_list_str (hn := sz) (I.ok.hd hc) z t fun h' tk acc c' kp e it => ?_
  have rv := vals_signs it
  obtain ⟨l⟩ := acc
  exact ⟨.ref s.heap.objs.size, _, I.laid (t' := tk) kp (Nat.le_refl _) (show ObjOk X.prog X.w _ h' _ (.lst (z.cps.toList.map fun c => V.str ⟨#[c]⟩)) from ⟨by rw [List.length_map, Array.length_toList]; exact sz, l, c', rv, e⟩), rfl, q _ (I.hok.fresh (Nat.le_refl _))⟩
def rListV (K : PySem.W.Frag) : List V → Hp → VK → Prop := fun xs H Q => (∃ p ys, xs = [.ref p] ∧ (SqL K H p ys ∨ SqT K H p ys) ∧ ∀ l, H l = none → Q (.ref l) (upd H l (.lst ys))) ∨ rListS xs H Q
theorem call_listV {X : Cx} {K : PySem.W.Frag} (hK : X.K = K) (hc : X.calm = true) : CallR X (.type "list") (rListV K) := by
  subst hK
  exact call_list_of.or (call_listS hc)
theorem g_listSq {K : PySem.W.Frag} {H : Hp} {Q : VK} {a : Addr} {xs : List V} (h : Sq K H a xs) (q : ∀ p, H p = none → Q (.ref p) (upd H p (.lst xs))) : rListV K [.ref a] H Q := .inl ⟨a, xs, rfl, h, q⟩
theorem g_listS {K : PySem.W.Frag} {H : Hp} {Q : VK} {z : Str} (hz : z.length ≤ 1000000) (q : ∀ p, H p = none → Q (.ref p) (upd H p (.lst (z.cps.toList.map fun c => V.str ⟨#[c]⟩)))) : rListV K [.str z] H Q := .inr ⟨z, rfl, hz, q⟩
theorem l_type {K : PySem.W.Frag} {H : Hp} {a : Addr} {xs : List V} (h : SqL K H a xs) : TyX K H (.ref a) (.type "list") := by
  rcases h with (h | ⟨o, h⟩) | h
  · exact .base (.lst h)
  · exact .base (.frz h)
  · obtain ⟨o, vs, n, e, c, _⟩ := h; exact .kList e c
end Hx

namespace Dx
open PySem PySem.Spec PyProof.Rows L2 Hx
/-! ## data without a heap -/
inductive D where
  | non | bl (b : Bool) | int (i : Int) | str (s : Str) | lst (ds : List D) | tup (ds : List D) | dct (b : Bool) (kvs : List (D × D)) | ins (c : Str) (fs : List (Str × D)) | scr (ds : List D) | ty (n : String) | cls (c : Str)
/-- a part's place in an own thing: a field, a key, a key that is a tuple, a number -/
inductive Ky where
  | f (s : Str) | k (x : Key) | t (ks : List Key) | i (n : Nat)
  deriving DecidableEq
/-- an own thing with own parts: an instance, a dict (b: by tuples), a list -/
inductive Nk where
  | ins (c : Str) | dct (b : Bool) | lst
  deriving DecidableEq
/-- what an own thing holds -/
inductive Tr where
  | fz (d : D) | l (ds : List D) | g (b : Bool) (es : List (D × D)) | n (k : Nk) (ts : List (Ky × Tr))
/-- whose: our own, the caller's to be written (s: its field "pending" was there at the entry), the caller's to be read -/
inductive Md where | mine | io (s : Bool) | ro
  deriving DecidableEq
/-- a local name's content: nothing, a value, a list of its own (o: the caller's), a dict of its own, a thing of its own, a caught exception -/
inductive Slot where
  | un | tr (d : D) | ol (o : Bool) (ds : List D) | od (b : Bool) (kvs : List (D × D)) | ob (m : Md) (t : Tr) | xe (c : Str) (fs : List (Str × D))
abbrev Env := List Slot
/-- what an expression gives: a value, the own content of slot i, a list or dict or thing that nobody holds -/
inductive W where
  | t (d : D) | o (i : Nat) | f (ds : List D) | g (b : Bool) (kvs : List (D × D)) | u (t : Tr)
inductive Z (α : Type) where
  | ok (a : α) (ρ : Env) | ex (c : Str) (fs : List (Str × D)) (ρ : Env) | bad
def Z.bind {α β : Type} : Z α → (α → Env → Z β) → Z β
  | .ok a ρ, k => k a ρ
  | .ex c fs ρ, _ => .ex c fs ρ
  | .bad, _ => .bad
abbrev EM := Env → Z W
inductive Sig where
  | nx | bk | ct | rt (w : W)
abbrev SM := Env → Z Sig
abbrev TM := Env → Z Bool
abbrev AM := Env → Z (List W)
/-- what a def gives: a value and the io list's content -/
inductive Fr where
  | ok (w : W) (io : List D) | ex (c : Str) (fs : List (Str × D)) (io : List D) | bad
/-- what a def with own things for parameters gives -/
inductive FrO where
  | ok (w : W) (ts : List Tr) | ex (c : Str) (fs : List (Str × D)) (ts : List Tr) | bad
def kD : Key → D
  | .inl i => .int i
  | .inr s => .str s
@[simp] def Ky.d : Ky → D
  | .f s => .str s
  | .k x => kD x
  | .t ks => .tup (ks.map kD)
  | .i n => .int n
@[simp] def Ky.s : Ky → Str
  | .f s => s
  | _ => ""
def Nk.mk : Nk → List (Ky × D) → D
  | .ins c, es => .ins c (es.map fun p => (p.1.s, p.2))
  | .dct b, es => .dct b (es.map fun p => (p.1.d, p.2))
  | .lst, es => .lst (es.map (·.2))
mutual
@[simp] def Tr.toD : Tr → D
  | .fz d => d
  | .l ds => .lst ds
  | .g b es => .dct b es
  | .n k ts => k.mk (Tr.toDs ts)
@[simp] def Tr.toDs : List (Ky × Tr) → List (Ky × D)
  | [] => []
  | (k, t) :: ts => (k, t.toD) :: Tr.toDs ts
end
def W.st : W → W
  | .f ds => .t (.lst ds)
  | .g b kvs => .t (.dct b kvs)
  | .u x => .t x.toD
  | .t d => .t d
  | .o i => .o i
def pkS : Option Slot → Option D
  | some (.ol _ ds) => some (.lst ds)
  | some (.od b kvs) => some (.dct b kvs)
  | some (.tr d) => some d
  | some (.ob _ _) => none
  | some (.xe _ _) => none
  | some .un => none
  | none => none
def pk : W → Env → Option D
  | .t d, _ => some d
  | .f ds, _ => some (.lst ds)
  | .g b kvs, _ => some (.dct b kvs)
  | .u _, _ => none
  | .o i, ρ => pkS ρ[i]?
/-- given away: an own content becomes a value for good -/
def fzS : Option Slot → Nat → Env → Z D
  | some (.ol false ds), i, ρ => .ok (.lst ds) (ρ.set i (.tr (.lst ds)))
  | some (.ol true _), _, _ => .bad
  | some (.od b kvs), i, ρ => .ok (.dct b kvs) (ρ.set i (.tr (.dct b kvs)))
  | some (.tr d), _, ρ => .ok d ρ
  | some (.ob .mine t), i, ρ => .ok t.toD (ρ.set i (.tr t.toD))
  | some (.ob (.io _) _), _, _ => .bad
  | some (.ob .ro _), _, _ => .bad
  | some (.xe _ _), _, _ => .bad
  | some .un, _, _ => .bad
  | none, _, _ => .bad
def fz : W → Env → Z D
  | .t d, ρ => .ok d ρ
  | .f ds, ρ => .ok (.lst ds) ρ
  | .g b kvs, ρ => .ok (.dct b kvs) ρ
  | .u t, ρ => .ok t.toD ρ
  | .o i, ρ => fzS ρ[i]? i ρ
@[simp] def fzs : List W → Env → Z (List D)
  | [], ρ => .ok [] ρ
  | w :: ws, ρ => (fz w ρ).bind fun d ρ1 => (fzs ws ρ1).bind fun ds ρ2 => .ok (d :: ds) ρ2
def toZ {α : Type} : Option α → Env → Z α
  | some a, ρ => .ok a ρ
  | none, _ => .bad
/-! ## reading -/
section
variable (K : PySem.W.Frag) (mg : Str → Option Value)
mutual
inductive Rd (F : Hp) : V → D → Prop
  | non : Rd F .non .non
  | bl (b : Bool) : Rd F (.bl b) (.bl b)
  | int (i : Int) : Rd F (.int i) (.int i)
  | str (s : Str) : Rd F (.str s) (.str s)
  | lst {a : Addr} {vs : List V} {ds : List D} : F a = some (.lst vs) → RdL F vs ds → Rd F (.ref a) (.lst ds)
  | scr {a : Addr} {vs : List V} {ds : List D} : SqL K F a vs → RdL F vs ds → Rd F (.ref a) (.scr ds)
  | ty (n : String) : Rd F (.ty n) (.ty n)
  | cls {c : Str} {C : Addr} : mg c = some (.ref C) → Rd F (.ref C) (.cls c)
  | tup {a : Addr} {vs : List V} {ds : List D} : F a = some (.tup vs) → RdL F vs ds → Rd F (.ref a) (.tup ds)
  | dK {a : Addr} {kvs : List (Key × V)} {es : List (D × D)} : F a = some (.dK kvs) → RdK F kvs es → Rd F (.ref a) (.dct false es)
  | dT {a : Addr} {kvs : List (List Key × V)} {es : List (D × D)} : F a = some (.dT kvs) → RdT F kvs es → Rd F (.ref a) (.dct true es)
  | ins {a C dx : Addr} {c : Str} {fs : List (Str × V)} {ds : List (Str × D)} : mg c = some (.ref C) → F a = some (.ins C dx fs) → RdF F fs ds → Rd F (.ref a) (.ins c ds)
inductive RdL (F : Hp) : List V → List D → Prop
  | nil : RdL F [] []
  | cons {v : V} {vs : List V} {d : D} {ds : List D} : Rd F v d → RdL F vs ds → RdL F (v :: vs) (d :: ds)
inductive RdF (F : Hp) : List (Str × V) → List (Str × D) → Prop
  | nil : RdF F [] []
  | cons {n : Str} {v : V} {vs : List (Str × V)} {d : D} {ds : List (Str × D)} : Rd F v d → RdF F vs ds → RdF F ((n, v) :: vs) ((n, d) :: ds)
inductive RdK (F : Hp) : List (Key × V) → List (D × D) → Prop
  | nil : RdK F [] []
  | cons {k : Key} {v : V} {vs : List (Key × V)} {d : D} {ds : List (D × D)} : Rd F v d → RdK F vs ds → RdK F ((k, v) :: vs) ((kD k, d) :: ds)
inductive RdT (F : Hp) : List (List Key × V) → List (D × D) → Prop
  | nil : RdT F [] []
  | cons {k : List Key} {v : V} {vs : List (List Key × V)} {d : D} {ds : List (D × D)} : Rd F v d → RdT F vs ds → RdT F ((k, v) :: vs) ((.tup (k.map kD), d) :: ds)
end
end
section
variable {K : PySem.W.Frag} {mg : Str → Option Value} {F F1 : Hp}
mutual
theorem Rd.up (e : Same F F1) : ∀ {v : V} {d : D}, Rd K mg F v d → Rd K mg F1 v d
  | _, _, .non => .non
  | _, _, .bl b => .bl b
  | _, _, .int i => .int i
  | _, _, .str s => .str s
  | _, _, .lst h r => .lst (e _ _ h) (RdL.up e r)
  | _, _, .scr h r => .scr (e.seq h) (RdL.up e r)
  | _, _, .ty n => .ty n
  | _, _, .cls h => .cls h
  | _, _, .tup h r => .tup (e _ _ h) (RdL.up e r)
  | _, _, .dK h r => .dK (e _ _ h) (RdK.up e r)
  | _, _, .dT h r => .dT (e _ _ h) (RdT.up e r)
  | _, _, .ins m h r => .ins m (e _ _ h) (RdF.up e r)
theorem RdL.up (e : Same F F1) : ∀ {v : List V} {d : List D}, RdL K mg F v d → RdL K mg F1 v d
  | _, _, .nil => .nil
  | _, _, .cons h r => .cons (Rd.up e h) (RdL.up e r)
theorem RdF.up (e : Same F F1) : ∀ {v : List (Str × V)} {d : List (Str × D)}, RdF K mg F v d → RdF K mg F1 v d
  | _, _, .nil => .nil
  | _, _, .cons h r => .cons (Rd.up e h) (RdF.up e r)
theorem RdK.up (e : Same F F1) : ∀ {v : List (Key × V)} {d : List (D × D)}, RdK K mg F v d → RdK K mg F1 v d
  | _, _, .nil => .nil
  | _, _, .cons h r => .cons (Rd.up e h) (RdK.up e r)
theorem RdT.up (e : Same F F1) : ∀ {v : List (List Key × V)} {d : List (D × D)}, RdT K mg F v d → RdT K mg F1 v d
  | _, _, .nil => .nil
  | _, _, .cons h r => .cons (Rd.up e h) (RdT.up e r)
end
theorem RdL.len : ∀ {vs : List V} {ds : List D}, RdL K mg F vs ds → vs.length = ds.length
  | _, _, .nil => rfl
  | _, _, .cons _ r => by simp [RdL.len r]
theorem RdL.get : ∀ {vs : List V} {ds : List D} {i : Nat} {d : D}, RdL K mg F vs ds → ds[i]? = some d → ∃ v, vs[i]? = some v ∧ Rd K mg F v d
  | _, _, _, _, .nil, e => by simp at e
  | _, _, 0, _, .cons h _, e => by simp at e; subst e; exact ⟨_, rfl, h⟩
  | _, _, i + 1, _, .cons _ r, e => by simpa using RdL.get (i := i) r (by simpa using e)
theorem RdL.app : ∀ {vs ws : List V} {ds es : List D}, RdL K mg F vs ds → RdL K mg F ws es → RdL K mg F (vs ++ ws) (ds ++ es)
  | _, _, _, _, .nil, q => q
  | _, _, _, _, .cons h r, q => .cons h (RdL.app r q)
theorem RdL.one {v : V} {d : D} (h : Rd K mg F v d) : RdL K mg F [v] [d] := .cons h .nil
theorem RdL.takeD : ∀ {vs : List V} {ds : List D} (n : Nat), RdL K mg F vs ds → RdL K mg F (vs.take n) (ds.take n)
  | _, _, 0, _ => .nil
  | _, _, _ + 1, .nil => .nil
  | _, _, n + 1, .cons h r => .cons h (RdL.takeD n r)
theorem RdL.dropD : ∀ {vs : List V} {ds : List D} (n : Nat), RdL K mg F vs ds → RdL K mg F (vs.drop n) (ds.drop n)
  | _, _, 0, r => r
  | _, _, _ + 1, .nil => .nil
  | _, _, n + 1, .cons _ r => RdL.dropD n r
theorem RdL.setD : ∀ {vs : List V} {ds : List D} (n : Nat) {v : V} {d : D}, RdL K mg F vs ds → Rd K mg F v d → RdL K mg F (vs.set n v) (ds.set n d)
  | _, _, _, _, _, .nil, _ => .nil
  | _, _, 0, _, _, .cons _ r, q => .cons q r
  | _, _, n + 1, _, _, .cons h r, q => .cons h (RdL.setD n r q)
theorem RdL.rev : ∀ {vs : List V} {ds : List D}, RdL K mg F vs ds → RdL K mg F vs.reverse ds.reverse
  | _, _, .nil => .nil
  | _, _, .cons h r => by rw [List.reverse_cons, List.reverse_cons]; exact (RdL.rev r).app (.one h)
theorem RdF.look : ∀ {vs : List (Str × V)} {ds : List (Str × D)} {n : Str} {d : D}, RdF K mg F vs ds → ds.lookup n = some d → ∃ v, vs.lookup n = some v ∧ Rd K mg F v d
  | _, _, _, _, .nil, e => by simp at e
  | _, _, n, _, .cons (n := m) h r, e => by
    rw [List.lookup] at e ⊢
    cases q : n == m with
    | true => rw [q] at e; simp at e; subst e; exact ⟨_, rfl, h⟩
    | false => rw [q] at e; exact RdF.look r e
/-! inversions -/
theorem Rd.inv_int {v : V} {i : Int} (h : Rd K mg F v (.int i)) : v = .int i := by cases h; rfl
theorem Rd.inv_str {v : V} {s : Str} (h : Rd K mg F v (.str s)) : v = .str s := by cases h; rfl
theorem Rd.inv_bl {v : V} {b : Bool} (h : Rd K mg F v (.bl b)) : v = .bl b := by cases h; rfl
theorem Rd.inv_non {v : V} (h : Rd K mg F v .non) : v = .non := by cases h; rfl
theorem Rd.inv_lst {v : V} {ds : List D} (h : Rd K mg F v (.lst ds)) : ∃ a vs, v = .ref a ∧ F a = some (.lst vs) ∧ RdL K mg F vs ds := by cases h with | lst h r => exact ⟨_, _, rfl, h, r⟩
theorem Rd.inv_tup {v : V} {ds : List D} (h : Rd K mg F v (.tup ds)) : ∃ a vs, v = .ref a ∧ F a = some (.tup vs) ∧ RdL K mg F vs ds := by cases h with | tup h r => exact ⟨_, _, rfl, h, r⟩
end
/-! ## what is frozen stands in the heap; a dict may be locked by a loop -/
def isDct : HO → Prop
  | .dK _ => True
  | .dT _ => True
  | _ => False
def Up (F H : Hp) : Prop := ∀ q o, F q = some o → H q = some o ∨ (isDct o ∧ ∃ od, H q = some (.frz od o))
section
variable {F F1 H H1 : Hp} {q p a : Addr} {o u : HO} {vs : List V}
theorem not_some {α : Type} {a : Option α} (h : ¬ a ≠ none) : a = none := Classical.byContradiction h
theorem Up.of (s : Same F H) : Up F H := fun q o h => .inl (s q o h)
theorem Up.get (x : Up F H) (h : F q = some o) (n : ¬ isDct o) : H q = some o := (x q o h).elim id fun z => absurd z.1 n
theorem Up.lst (x : Up F H) (h : F q = some (.lst vs)) : H q = some (.lst vs) := x.get h id
theorem Up.tup (x : Up F H) (h : F q = some (.tup vs)) : H q = some (.tup vs) := x.get h id
theorem Up.xd {fs : List (Str × V)} (x : Up F H) (h : F q = some (.xd fs)) : H q = some (.xd fs) := x.get h id
theorem Up.ins {C dx : Addr} {fs : List (Str × V)} (x : Up F H) (h : F q = some (.ins C dx fs)) : H q = some (.ins C dx fs) := x.get h id
theorem Up.rd (x : Up F H) (h : F q = some o) : L2.Rd H q o := (x q o h).elim .inl fun z => .inr z.2
theorem Up.there (x : Up F H) (h : F q = some o) : H q ≠ none := fun z => by
  rcases x q o h with e | ⟨_, _, e⟩ <;> (rw [z] at e; cases e)
theorem Up.free (x : Up F H) (h : H q = none) : F q = none := by
  cases e : F q with
  | none => rfl
  | some o => exact absurd h (x.there e)
theorem Up.mono (x : Up F H) (s : Same H H1) : Up F H1 := fun q o h => (x q o h).elim (fun e => .inl (s _ _ e)) fun ⟨d, od, e⟩ => .inr ⟨d, od, s _ _ e⟩
theorem Up.pre (x : Up F1 H) (s : Same F F1) : Up F H := fun q o h => x q o (s _ _ h)
theorem Up.seq {K : PySem.W.Frag} (x : Up F H) (h : SqL K F a vs) : SqL K H a vs := by
  rcases h with (h | ⟨o, h⟩) | h
  · exact .inl (.inl (x.lst h))
  · exact .inl (.inr ⟨o, x.get h id⟩)
  · exact .inr h
theorem Up.put (x : Up F H) (n : H p = none) : Up (upd F p o) (upd H p o) := fun b ob h => by
  by_cases e : b = p
  · subst e; rw [upd_same] at h ⊢; exact .inl h
  · rw [upd_ne e] at h ⊢; exact x _ _ h
end
/-! ## own things -/
def kidsO : HO → List (Ky × V)
  | .ins _ _ fs => fs.map fun p => (.f p.1, p.2)
  | .dK es => es.map fun p => (.k p.1, p.2)
  | .dT es => es.map fun p => (.t p.1, p.2)
  | .lst vs => vs.zipIdx.map fun p => (.i p.2, p.1)
  | _ => []
def kids (H : Hp) (a : Addr) : List (Ky × V) := match H a with
  | some o => kidsO o
  | none => []
def KindO (mg : Str → Option Value) : Nk → HO → Prop
  | .ins c, o => ∃ C dx fs, mg c = some (.ref C) ∧ o = .ins C dx fs
  | .dct false, o => ∃ es, o = .dK es
  | .dct true, o => ∃ es, o = .dT es
  | .lst, o => ∃ vs, o = .lst vs
def notTup : HO → Prop
  | .tup _ => False
  | _ => True
-- the addresses of an own thing and its own parts
mutual
def ft (H : Hp) : Tr → V → Addr → Prop
  | .fz _, _, _ => False
  | .l _, v, q => v = .ref q
  | .g _ _, v, q => v = .ref q
  | .n _ ts, v, q => v = .ref q ∨ ∃ a, v = .ref a ∧ ftL H ts (kids H a) q
def ftL (H : Hp) : List (Ky × Tr) → List (Ky × V) → Addr → Prop
  | (_, t) :: ts, (_, v) :: kvs, q => ft H t v q ∨ ftL H ts kvs q
  | _, _, _ => False
end
def DcAt (K : PySem.W.Frag) (mg : Str → Option Value) (F H : Hp) (q : Addr) (b : Bool) (es : List (D × D)) : Prop :=
  (b = false ∧ ∃ kvs, H q = some (.dK kvs) ∧ RdK K mg F kvs es) ∨ (b = true ∧ ∃ kvs, H q = some (.dT kvs) ∧ RdT K mg F kvs es)
section
variable (K : PySem.W.Frag) (mg : Str → Option Value)
mutual
inductive Ow (F H : Hp) : V → Tr → Prop
  | fz {v : V} {d : D} : Rd K mg F v d → Ow F H v (.fz d)
  | l {a : Addr} {vs : List V} {ds : List D} : H a = some (.lst vs) → RdL K mg F vs ds → Ow F H (.ref a) (.l ds)
  | g {a : Addr} {b : Bool} {es : List (D × D)} : DcAt K mg F H a b es → Ow F H (.ref a) (.g b es)
  | n {a : Addr} {o : HO} {k : Nk} {ts : List (Ky × Tr)} : H a = some o → KindO mg k o → OwL F H a (kidsO o) ts → Ow F H (.ref a) (.n k ts)
inductive OwL (F H : Hp) : Addr → List (Ky × V) → List (Ky × Tr) → Prop
  | nil {a : Addr} : OwL F H a [] []
  | cons {a : Addr} {k : Ky} {v : V} {t : Tr} {kvs : List (Ky × V)} {ts : List (Ky × Tr)} : Ow F H v t → OwL F H a kvs ts → k ∉ ts.map (·.1) → ¬ ft H t v a → (∀ q, ft H t v q → ¬ ftL H ts kvs q) → OwL F H a ((k, v) :: kvs) ((k, t) :: ts)
end
end
section
variable {K : PySem.W.Frag} {mg : Str → Option Value} {F F1 H H1 : Hp} {q p : Addr} {o : HO}
theorem DcAt.ex {b : Bool} {es : List (D × D)} (h : DcAt K mg F H q b es) : ∃ o, H q = some o ∧ notTup o := by
  rcases h with ⟨e, kvs, h, r⟩ | ⟨e, kvs, h, r⟩
  · exact ⟨_, h, trivial⟩
  · exact ⟨_, h, trivial⟩
theorem DcAt.keep {b : Bool} {es : List (D × D)} (h : DcAt K mg F H q b es) (s : Same F F1) (k : ∀ o, H q = some o → H1 q = some o) : DcAt K mg F1 H1 q b es := by
  rcases h with ⟨e, kvs, h, r⟩ | ⟨e, kvs, h, r⟩
  · exact .inl ⟨e, kvs, k _ h, r.up s⟩
  · exact .inr ⟨e, kvs, k _ h, r.up s⟩
theorem kids_of {a : Addr} (h : H a = some o) : kids H a = kidsO o := by unfold kids; rw [h]
mutual
theorem Ow.there : ∀ {v : V} {t : Tr}, Ow K mg F H v t → ∀ q, ft H t v q → ∃ o, H q = some o ∧ notTup o
  | _, _, .fz _, q, h => by rw [ft] at h; exact h.elim
  | _, _, .l e _, q, h => by rw [ft] at h; cases h; exact ⟨_, e, trivial⟩
  | _, _, .g e, q, h => by rw [ft] at h; cases h; exact e.ex
  | _, _, @Ow.n _ _ _ _ a o k ts e kk r, q, h => by
    rw [ft] at h
    rcases h with h | ⟨b, eb, h⟩
    · cases h
      refine ⟨o, e, ?_⟩
      cases k with
      | ins c => obtain ⟨_, _, _, _, rfl⟩ := kk; trivial
      | lst => obtain ⟨_, rfl⟩ := kk; trivial
      | dct b => cases b <;> (obtain ⟨_, rfl⟩ := kk; trivial)
    · cases eb; rw [kids_of e] at h; exact OwL.there r q h
theorem OwL.there : ∀ {a : Addr} {kvs : List (Ky × V)} {ts : List (Ky × Tr)}, OwL K mg F H a kvs ts → ∀ q, ftL H ts kvs q → ∃ o, H q = some o ∧ notTup o
  | _, _, _, .nil, q, h => by exact (by simpa [ftL] using h : False).elim
  | _, _, _, .cons h1 r _ _ _, q, h => by
    rw [ftL] at h
    rcases h with h | h
    · exact Ow.there h1 q h
    · exact OwL.there r q h
end
mutual
theorem Ow.keep (s : Same F F1) : ∀ {v : V} {t : Tr}, Ow K mg F H v t → (∀ q o, ft H t v q → H q = some o → H1 q = some o) → Ow K mg F1 H1 v t ∧ ∀ q, ft H1 t v q ↔ ft H t v q
  | _, _, .fz r, k => ⟨.fz (r.up s), fun q => by rw [ft, ft]⟩
  | _, _, .l e r, k => ⟨.l (k _ _ (by rw [ft]) e) (r.up s), fun q => by rw [ft, ft]⟩
  | _, _, .g e, k => ⟨.g (e.keep s fun o h => k _ _ (by rw [ft]) h), fun q => by rw [ft, ft]⟩
  | _, _, @Ow.n _ _ _ _ a o kk ts e kd r, k => by
    have e1 : H1 a = some o := k _ _ (by rw [ft]; exact .inl rfl) e
    obtain ⟨r1, f1⟩ := OwL.keep s r fun q o h => k q o (by rw [ft]; exact .inr ⟨a, rfl, by rw [kids_of e]; exact h⟩)
    refine ⟨.n e1 kd r1, fun q => ?_⟩
    rw [ft, ft]
    refine or_congr Iff.rfl ⟨fun ⟨b, eb, h⟩ => ?_, fun ⟨b, eb, h⟩ => ?_⟩
    · cases eb; rw [kids_of e1] at h; exact ⟨a, rfl, by rw [kids_of e]; exact (f1 q).1 h⟩
    · cases eb; rw [kids_of e] at h; exact ⟨a, rfl, by rw [kids_of e1]; exact (f1 q).2 h⟩
theorem OwL.keep (s : Same F F1) : ∀ {a : Addr} {kvs : List (Ky × V)} {ts : List (Ky × Tr)}, OwL K mg F H a kvs ts → (∀ q o, ftL H ts kvs q → H q = some o → H1 q = some o) → OwL K mg F1 H1 a kvs ts ∧ ∀ q, ftL H1 ts kvs q ↔ ftL H ts kvs q
  | _, _, _, .nil, k => ⟨.nil, fun q => by simp [ftL]⟩
  | _, _, _, .cons h r n1 n2 n3, k => by
    obtain ⟨a1, f1⟩ := Ow.keep s h fun q o x => k q o (by rw [ftL]; exact .inl x)
    obtain ⟨a2, f2⟩ := OwL.keep s r fun q o x => k q o (by rw [ftL]; exact .inr x)
    refine ⟨.cons a1 a2 n1 (fun z => n2 ((f1 _).1 z)) (fun q x y => n3 q ((f1 q).1 x) ((f2 q).1 y)), fun q => ?_⟩
    rw [ftL, ftL, f1 q, f2 q]
end
end
/-! ## the state that is read -/
/-- IO: the cells of the caller's thing in slot i that may be written; rt: the caller's thing in slot i; P: kept as they are; lk: locked dicts; xa: the caught exception, its class, its dict -/
structure Ctx (K : PySem.W.Frag) (mg : Str → Option Value) where
  F0 : Hp
  H0 : Hp
  IO : Nat → Addr → Prop
  rt : Nat → Option Addr
  P : Hp
  lk : Hp
  xa : Option (Addr × Addr × Addr)
abbrev Ctx.io {K : PySem.W.Frag} {mg : Str → Option Value} (c : Ctx K mg) (q : Addr) : Prop := ∃ i, c.IO i q
abbrev Ctx.K {K : PySem.W.Frag} {mg : Str → Option Value} (_ : Ctx K mg) : PySem.W.Frag := K
abbrev Ctx.mg {K : PySem.W.Frag} {mg : Str → Option Value} (_ : Ctx K mg) : Str → Option Value := mg
/-- the field "pending" of an instance: once there, it stays the same -/
def PendAt (H : Hp) (q : Addr) (y : V) : Prop := ∃ C dx fs, H q = some (.ins C dx fs) ∧ fs.lookup ("pending" : Str) = some y
def Stb (H H' : Hp) : Prop := ∀ q y, PendAt H q y → PendAt H' q y
theorem Stb.refl (H : Hp) : Stb H H := fun _ _ h => h
theorem Stb.trans {H H1 H2 : Hp} (a : Stb H H1) (b : Stb H1 H2) : Stb H H2 := fun q y h => b q y (a q y h)
theorem Stb.of {H H1 : Hp} (a : Same H H1) : Stb H H1 := fun q y ⟨C, dx, fs, h, e⟩ => ⟨C, dx, fs, a _ _ h, e⟩
theorem Stb.upd {H : Hp} {p : Addr} {o u : HO} (h : H p = some o) (n : ∀ C dx fs, o ≠ .ins C dx fs) : Stb H (upd H p u) := fun q y ⟨C, dx, fs, e, l⟩ => ⟨C, dx, fs, by rw [upd_ne (fun z => by subst z; rw [h] at e; cases e; exact n _ _ _ rfl)]; exact e, l⟩
/-- a step that only adds -/
structure Adv (F H F' H' : Hp) : Prop where
  ff : Same F F'
  hh : Same H H'
  fh : Up F' H'
  nw : ∀ q, F' q ≠ none → F q = none → H q = none ∨ ∃ vs, H q = some (.tup vs)
section
variable {K : PySem.W.Frag} {mg : Str → Option Value}
/-- not there at the entry, and not kept for others -/
def Fresh (c : Ctx K mg) (q : Addr) : Prop := c.H0 q = none ∧ c.P q = none
def Cell (c : Ctx K mg) (i : Nat) : Md → Addr → Prop
  | .mine, q => Fresh c q
  | .io _, q => (c.H0 q = none ∨ c.IO i q) ∧ c.P q = none
  | .ro, q => c.P q = none
/-- the cells of slot i -/
def FtS (σ : L2.St) (H : Hp) (i : Nat) : Slot → Addr → Prop
  | .ol _ _, q => σ[i]? = some (some (.ref q))
  | .od _ _, q => σ[i]? = some (some (.ref q))
  | .ob _ t, q => ∃ v, σ[i]? = some (some v) ∧ ft H t v q
  | .un, _ => False
  | .tr _, _ => False
  | .xe _ _, _ => False
def Ft (σ : L2.St) (H : Hp) (ρ : Env) (i : Nat) (q : Addr) : Prop := ∃ s, ρ[i]? = some s ∧ FtS σ H i s q
def RdS (c : Ctx K mg) (F : Hp) (σ : L2.St) (H : Hp) (i : Nat) : Slot → Prop
  | .un => True
  | .tr d => ∃ v, σ[i]? = some (some v) ∧ Rd c.K c.mg F v d
  | .ol o ds => ∃ q vs, σ[i]? = some (some (.ref q)) ∧ F q = none ∧ H q = some (.lst vs) ∧ RdL c.K c.mg F vs ds ∧ if o = true then c.rt i = some q ∧ c.IO i q ∧ c.P q = none else Fresh c q
  | .od b es => ∃ q, σ[i]? = some (some (.ref q)) ∧ F q = none ∧ Fresh c q ∧ DcAt c.K c.mg F H q b es
  | .ob m t => ∃ v, σ[i]? = some (some v) ∧ Ow c.K c.mg F H v t ∧ (∀ q, ft H t v q → F q = none ∧ Cell c i m q) ∧ (∀ b, m = .io b → ∃ q, v = .ref q ∧ c.rt i = some q ∧ (b = true → ∃ y, PendAt c.H0 q y))
  | .xe cn fs => ∃ a C dd fsV, c.xa = some (a, C, dd) ∧ σ[i]? = some (some (.ref a)) ∧ c.mg cn = some (.ref C) ∧ F dd = some (.xd fsV) ∧ RdF c.K c.mg F fsV fs
/-- what holds of the heap -/
structure Hk (c : Ctx K mg) (F H : Hp) : Prop where
  up : Up F H
  up0 : Same c.F0 F
  fr : ∀ q o, c.H0 q = some o → ¬ c.io q → c.lk q = none → H q = some o
  nw : ∀ q, F q ≠ none → c.F0 q = none → c.H0 q = none ∨ ∃ vs, c.H0 q = some (.tup vs)
  ioH : ∀ q, c.io q → ∃ o, H q = some o ∧ notTup o
  io0 : ∀ q, c.io q → ∃ o, c.H0 q = some o ∧ notTup o
  pr : ∀ q o, c.P q = some o → H q = some o ∧ F q = none ∧ notTup o
  lk : ∀ q o, c.lk q = some o → H q = some o ∧ F q ≠ none
  st : Stb c.H0 H
structure Rs (c : Ctx K mg) (F : Hp) (σ : L2.St) (H : Hp) (ρ : Env) : Prop extends Hk c F H where
  len : σ.length = ρ.length
  sl : ∀ i s, ρ[i]? = some s → RdS c F σ H i s
  dj : ∀ i j q, Ft σ H ρ i q → Ft σ H ρ j q → i = j
def RdW (c : Ctx K mg) (F : Hp) (σ : L2.St) (H : Hp) (ρ : Env) (x : V) : W → Prop
  | .t d => Rd c.K c.mg F x d
  | .o i => σ[i]? = some (some x)
  | .f ds => ∃ q vs, x = .ref q ∧ F q = none ∧ Fresh c q ∧ H q = some (.lst vs) ∧ RdL c.K c.mg F vs ds ∧ ∀ i, ¬ Ft σ H ρ i q
  | .g b es => ∃ q, x = .ref q ∧ F q = none ∧ Fresh c q ∧ DcAt c.K c.mg F H q b es ∧ ∀ i, ¬ Ft σ H ρ i q
  | .u t => Ow c.K c.mg F H x t ∧ ∀ q, ft H t x q → F q = none ∧ Fresh c q ∧ ∀ i, ¬ Ft σ H ρ i q
end
section
variable {K : PySem.W.Frag} {mg : Str → Option Value} {c : Ctx K mg} {F F' F'' H H' H'' : Hp} {σ σ' : L2.St} {ρ ρ' : Env} {x : V} {q p : Addr} {o : HO} {i : Nat} {s : Slot}
theorem Adv.refl (u : Up F H) : Adv F H F H := ⟨Same.refl F, Same.refl H, u, fun q h n => absurd n h⟩
theorem Adv.trans (a : Adv F H F' H') (b : Adv F' H' F'' H'') : Adv F H F'' H'' := by
  refine ⟨a.ff.trans b.ff, a.hh.trans b.hh, b.fh, fun q h n => ?_⟩
  by_cases z : F' q = none
  · rcases b.nw q h z with e | ⟨vs, e⟩
    · exact .inl (a.hh.free e)
    · cases e2 : H q with
      | none => exact .inl rfl
      | some o => rw [a.hh _ _ e2] at e; cases e; exact .inr ⟨vs, rfl⟩
  · exact a.nw q z n
theorem Adv.keepN (a : Adv F H F' H') (n : F q = none) (h : H q = some o) (t : notTup o) : F' q = none := by
  apply not_some
  intro z
  rcases a.nw q z n with e | ⟨vs, e⟩
  · rw [h] at e; cases e
  · rw [h] at e; cases e; exact t
theorem Adv.put (u : Up F H) (n : H p = none) : Adv F H (upd F p o) (upd H p o) := by
  refine ⟨s_new (Same.refl F) (u.free n), s_new (Same.refl H) n, u.put n, fun b h nb => ?_⟩
  by_cases e : b = p
  · subst e; exact .inl n
  · rw [upd_ne e] at h; exact absurd nb h
theorem Adv.newH (u : Up F H) (n : H p = none) : Adv F H F (upd H p o) := ⟨Same.refl F, s_new (Same.refl H) n, u.mono (s_new (Same.refl H) n), fun q h n => absurd n h⟩
theorem DcAt.adv {b : Bool} {es : List (D × D)} (a : Adv F H F' H') (h : DcAt K mg F H q b es) : DcAt K mg F' H' q b es := h.keep a.ff fun o => a.hh q o
theorem Hk.none0 (R : Hk c F H) (n : H q = none) : Fresh c q := by
  refine ⟨?_, by
    cases h : c.P q with
    | none => rfl
    | some o => rw [(R.pr q o h).1] at n; cases n⟩
  cases h : c.H0 q with
  | none => rfl
  | some o =>
    by_cases e : c.io q
    · obtain ⟨o', h', _⟩ := R.ioH q e; rw [n] at h'; cases h'
    · cases l : c.lk q with
      | none => rw [R.fr q o h e l] at n; cases n
      | some o' => rw [(R.lk q o' l).1] at n; cases n
theorem Rs.none0 (R : Rs c F σ H ρ) (n : H q = none) : Fresh c q := R.toHk.none0 n
theorem Hk.adv (R : Hk c F H) (a : Adv F H F' H') : Hk c F' H' := by
  refine ⟨a.fh, R.up0.trans a.ff, fun q o h e l => a.hh _ _ (R.fr q o h e l), fun q h n => ?_, fun q e => (R.ioH q e).imp fun o h => ⟨a.hh _ _ h.1, h.2⟩, R.io0, fun q o h => ?_, fun q o h => ?_, R.st.trans (.of a.hh)⟩
  · by_cases z : F q = none
    · rcases a.nw q h z with e | ⟨vs, e⟩
      · exact .inl (R.none0 e).1
      · cases e0 : c.H0 q with
        | none => exact .inl rfl
        | some o =>
          by_cases io : c.io q
          · obtain ⟨o', h', t⟩ := R.ioH q io; rw [h'] at e; cases e; exact t.elim
          · cases l : c.lk q with
            | none => rw [R.fr q o e0 io l] at e; cases e; exact .inr ⟨vs, rfl⟩
            | some o' => exact absurd z (R.lk q o' l).2
    · exact R.nw q z n
  · obtain ⟨h1, h2, h3⟩ := R.pr q o h
    exact ⟨a.hh _ _ h1, a.keepN h2 h1 h3, h3⟩
  · obtain ⟨h1, h2⟩ := R.lk q o h
    refine ⟨a.hh _ _ h1, fun z => ?_⟩
    cases e : F q with
    | none => exact h2 e
    | some o => rw [a.ff _ _ e] at z; cases z
theorem RdS.there (r : RdS c F σ H i s) (h : FtS σ H i s q) : ∃ o, H q = some o ∧ notTup o ∧ F q = none := by
  cases s with
  | un => exact h.elim
  | tr d => exact h.elim
  | xe _ _ => exact h.elim
  | ol o ds => obtain ⟨q2, vs, e, n, h2, _⟩ := r; have h : σ[i]? = some (some (.ref q)) := h; rw [e] at h; cases h; exact ⟨_, h2, trivial, n⟩
  | od b es => obtain ⟨q2, e, n, _, dc⟩ := r; have h : σ[i]? = some (some (.ref q)) := h; rw [e] at h; cases h; obtain ⟨o, ho, t⟩ := dc.ex; exact ⟨o, ho, t, n⟩
  | ob m t => obtain ⟨v, e, w, n, _⟩ := r; obtain ⟨v2, e2, h⟩ := h; rw [e] at e2; cases e2; obtain ⟨o, ho, t⟩ := w.there q h; exact ⟨o, ho, t, (n q h).1⟩
theorem RdS.keep (r : RdS c F σ H i s) (s1 : Same F F') (sg : σ'[i]? = σ[i]?) (k : ∀ q o, FtS σ H i s q → H q = some o → notTup o → F q = none → H' q = some o ∧ F' q = none) : RdS c F' σ' H' i s ∧ ∀ q, FtS σ' H' i s q ↔ FtS σ H i s q := by
  cases s with
  | un => exact ⟨trivial, fun q => Iff.rfl⟩
  | tr d => obtain ⟨v, e, r⟩ := r; exact ⟨⟨v, sg.trans e, r.up s1⟩, fun q => Iff.rfl⟩
  | xe cn fs => obtain ⟨a, C, dd, fsV, xa, e, hm, hd, r⟩ := r; exact ⟨⟨a, C, dd, fsV, xa, sg.trans e, hm, s1 _ _ hd, r.up s1⟩, fun q => Iff.rfl⟩
  | ol o ds =>
    obtain ⟨q, vs, e, n, h, r, w⟩ := r
    obtain ⟨h1, n1⟩ := k q _ e h trivial n
    exact ⟨⟨q, vs, sg.trans e, n1, h1, r.up s1, w⟩, fun q => by show σ'[i]? = _ ↔ σ[i]? = _; rw [sg]⟩
  | od b es =>
    obtain ⟨q, e, n, f, dc⟩ := r
    obtain ⟨o, ho, t⟩ := dc.ex
    obtain ⟨h1, n1⟩ := k q _ e ho t n
    exact ⟨⟨q, sg.trans e, n1, f, dc.keep s1 fun o h => by rw [ho] at h; cases h; exact h1⟩, fun q => by show σ'[i]? = _ ↔ σ[i]? = _; rw [sg]⟩
  | ob m t =>
    obtain ⟨v, e, w, n, io⟩ := r
    obtain ⟨w1, f1⟩ := w.keep s1 (H1 := H') fun q o hq ho => by
      obtain ⟨o', ho', t⟩ := w.there q hq
      rw [ho] at ho'; cases ho'
      exact (k q o ⟨v, e, hq⟩ ho t (n q hq).1).1
    refine ⟨⟨v, sg.trans e, w1, fun q hq => ?_, io⟩, fun q => ?_⟩
    · have hq := (f1 q).1 hq
      obtain ⟨o, ho, t⟩ := w.there q hq
      exact ⟨(k q o ⟨v, e, hq⟩ ho t (n q hq).1).2, (n q hq).2⟩
    · show (∃ v, σ'[i]? = some (some v) ∧ ft H' t v q) ↔ ∃ v, σ[i]? = some (some v) ∧ ft H t v q
      rw [sg]
      constructor
      · rintro ⟨v2, e2, h⟩; rw [e] at e2; cases e2; exact ⟨v, e, (f1 q).1 h⟩
      · rintro ⟨v2, e2, h⟩; rw [e] at e2; cases e2; exact ⟨v, e, (f1 q).2 h⟩
/-- the state behind a step that changes slot i alone -/
theorem Rs.gen (R : Rs c F σ H ρ) (i : Nat) (hk : Hk c F' H') (ln : σ'.length = ρ'.length) (s1 : Same F F')
    (kp : ∀ j s, j ≠ i → ρ'[j]? = some s → ρ[j]? = some s ∧ σ'[j]? = σ[j]? ∧ ∀ q o, FtS σ H j s q → H q = some o → notTup o → F q = none → H' q = some o ∧ F' q = none)
    (ai : ∀ s, ρ'[i]? = some s → RdS c F' σ' H' i s ∧ ∀ q, FtS σ' H' i s q → ∀ j, j ≠ i → ¬ Ft σ H ρ j q) : Rs c F' σ' H' ρ' := by
  have back : ∀ j q, j ≠ i → Ft σ' H' ρ' j q → Ft σ H ρ j q := fun j q ne ⟨s, e, h⟩ => by
    obtain ⟨e1, sg, k⟩ := kp j s ne e
    exact ⟨s, e1, (((R.sl j s e1).keep s1 sg k).2 q).1 h⟩
  refine ⟨hk, ln, fun j s e => ?_, fun j k q hj hk => ?_⟩
  · by_cases ne : j = i
    · subst ne; exact (ai s e).1
    · obtain ⟨e1, sg, k⟩ := kp j s ne e
      exact ((R.sl j s e1).keep s1 sg k).1
  · by_cases ji : j = i
    · by_cases ki : k = i
      · rw [ji, ki]
      · subst ji
        obtain ⟨s, e, h⟩ := hj
        exact absurd (back k q ki hk) ((ai s e).2 q h k ki)
    · by_cases ki : k = i
      · subst ki
        obtain ⟨s, e, h⟩ := hk
        exact absurd (back j q ji hj) ((ai s e).2 q h j ji)
      · exact R.dj j k q (back j q ji hj) (back k q ki hk)
/-- .. that changes no slot -/
theorem Rs.gen0 (R : Rs c F σ H ρ) (hk : Hk c F' H') (s1 : Same F F') (k : ∀ j q o, Ft σ H ρ j q → H q = some o → notTup o → F q = none → H' q = some o ∧ F' q = none) : Rs c F' σ H' ρ :=
  R.gen ρ.length hk R.len s1 (fun j s _ e => ⟨e, rfl, fun q o hq => k j q o ⟨s, e, hq⟩⟩) fun s e => by
    rw [List.getElem?_eq_none (Nat.le_refl _)] at e; cases e
theorem Rs.there (R : Rs c F σ H ρ) (h : Ft σ H ρ i q) : ∃ o, H q = some o ∧ notTup o ∧ F q = none := by
  obtain ⟨s, e, h⟩ := h; exact (R.sl i s e).there h
theorem Rs.notOwn (R : Rs c F σ H ρ) (n : H q = none) : ∀ i, ¬ Ft σ H ρ i q := fun i h => by
  obtain ⟨o, ho, _⟩ := R.there h; rw [n] at ho; cases ho
theorem Rs.adv (R : Rs c F σ H ρ) (a : Adv F H F' H') : Rs c F' σ H' ρ :=
  R.gen0 (R.toHk.adv a) a.ff fun j q o _ ho t n => ⟨a.hh _ _ ho, a.keepN n ho t⟩
theorem RdW.st_up {F1 H1 : Hp} {ρ1 : Env} {w : W} (s : Same F F1) (e : w.st = w) (h : RdW c F σ H ρ x w) : RdW c F1 σ H1 ρ1 x w := by
  cases w with
  | t d => exact Rd.up s h
  | o i => exact h
  | f ds => cases e
  | g b kvs => cases e
  | u t => cases e
/-- frozen: the cells of S become F's -/
noncomputable def fzH (F H : Hp) (S : Addr → Prop) : Hp := fun q => @ite _ (S q) (Classical.propDecidable _) (H q) (F q)
theorem fzH_in {S : Addr → Prop} (h : S q) : fzH F H S q = H q := by unfold fzH; rw [if_pos h]
theorem fzH_out {S : Addr → Prop} (h : ¬ S q) : fzH F H S q = F q := by unfold fzH; rw [if_neg h]
theorem fzH_same {S : Addr → Prop} (n : ∀ q, S q → F q = none) : Same F (fzH F H S) := fun q o h => by
  by_cases z : S q
  · rw [n q z] at h; cases h
  · rw [fzH_out z]; exact h
theorem Hk.freeze {S : Addr → Prop} (R : Hk c F H) (n : ∀ q, S q → F q = none ∧ Fresh c q) : Hk c (fzH F H S) H := by
  have s := fzH_same (F := F) (H := H) (S := S) fun q h => (n q h).1
  refine ⟨fun q o h => ?_, R.up0.trans s, R.fr, fun q h n0 => ?_, R.ioH, R.io0, fun q o h => ?_, fun q o h => ?_, R.st⟩
  · by_cases z : S q
    · rw [fzH_in z] at h; exact .inl h
    · rw [fzH_out z] at h; exact R.up q o h
  · by_cases z : S q
    · exact .inl (n q z).2.1
    · rw [fzH_out z] at h; exact R.nw q h n0
  · obtain ⟨h1, h2, h3⟩ := R.pr q o h
    refine ⟨h1, ?_, h3⟩
    by_cases z : S q
    · rw [(n q z).2.2] at h; cases h
    · rw [fzH_out z]; exact h2
  · obtain ⟨h1, h2⟩ := R.lk q o h
    refine ⟨h1, ?_⟩
    by_cases z : S q
    · rw [fzH_in z, h1]; exact nofun
    · rw [fzH_out z]; exact h2
theorem Rs.freeze {S : Addr → Prop} (R : Rs c F σ H ρ) (n : ∀ q, S q → F q = none ∧ Fresh c q ∧ ∀ i, ¬ Ft σ H ρ i q) : Rs c (fzH F H S) σ H ρ ∧ Same F (fzH F H S) := by
  have s := fzH_same (F := F) (H := H) (S := S) fun q h => (n q h).1
  refine ⟨R.gen0 (R.toHk.freeze fun q h => ⟨(n q h).1, (n q h).2.1⟩) s fun j q o hj ho t nf => ⟨ho, ?_⟩, s⟩
  rw [fzH_out fun z => (n q z).2.2 j hj]
  exact nf
inductive RdKs (K : PySem.W.Frag) (mg : Str → Option Value) (F : Hp) : List (Ky × V) → List (Ky × D) → Prop
  | nil : RdKs K mg F [] []
  | cons {k : Ky} {v : V} {d : D} {vs : List (Ky × V)} {ds : List (Ky × D)} : Rd K mg F v d → RdKs K mg F vs ds → RdKs K mg F ((k, v) :: vs) ((k, d) :: ds)
theorem RdKs.fs : ∀ {fs : List (Str × V)} {ds : List (Ky × D)}, RdKs K mg F (fs.map fun p => (Ky.f p.1, p.2)) ds → RdF K mg F fs (ds.map fun p => (p.1.s, p.2))
  | [], _, .nil => .nil
  | (n, v) :: fs, _, .cons h r => .cons h (RdKs.fs r)
theorem RdKs.ks : ∀ {fs : List (Key × V)} {ds : List (Ky × D)}, RdKs K mg F (fs.map fun p => (Ky.k p.1, p.2)) ds → RdK K mg F fs (ds.map fun p => (p.1.d, p.2))
  | [], _, .nil => .nil
  | (n, v) :: fs, _, .cons h r => .cons h (RdKs.ks r)
theorem RdKs.ts : ∀ {fs : List (List Key × V)} {ds : List (Ky × D)}, RdKs K mg F (fs.map fun p => (Ky.t p.1, p.2)) ds → RdT K mg F fs (ds.map fun p => (p.1.d, p.2))
  | [], _, .nil => .nil
  | (n, v) :: fs, _, .cons h r => .cons h (RdKs.ts r)
theorem RdKs.ls : ∀ {fs : List V} {n : Nat} {ds : List (Ky × D)}, RdKs K mg F ((fs.zipIdx n).map fun p => (Ky.i p.2, p.1)) ds → RdL K mg F fs (ds.map (·.2))
  | [], _, _, .nil => .nil
  | v :: fs, n, _, h => by
    rw [List.zipIdx_cons, List.map_cons] at h
    cases h with
    | cons h r => exact .cons h (RdKs.ls r)
mutual
theorem Ow.frz (s : Same F F') : ∀ {v : V} {t : Tr}, Ow K mg F H v t → (∀ q, ft H t v q → F' q = H q) → Rd K mg F' v t.toD
  | _, _, .fz r, k => r.up s
  | _, _, .l e r, k => .lst ((k _ (by rw [ft])).trans e) (r.up s)
  | _, _, .g e, k => by
    rcases e with ⟨rfl, kvs, e, r⟩ | ⟨rfl, kvs, e, r⟩
    · rw [Tr.toD]; exact .dK ((k _ (by rw [ft])).trans e) (r.up s)
    · rw [Tr.toD]; exact .dT ((k _ (by rw [ft])).trans e) (r.up s)
  | _, _, @Ow.n _ _ _ _ a o kk ts e kd r, k => by
    have e1 : F' a = some o := (k _ (by rw [ft]; exact .inl rfl)).trans e
    have r1 := OwL.frz s r fun q h => k q (by rw [ft]; exact .inr ⟨a, rfl, by rw [kids_of e]; exact h⟩)
    rw [Tr.toD]
    cases kk with
    | ins c => obtain ⟨C, dx, fs, hm, rfl⟩ := kd; exact .ins hm e1 r1.fs
    | lst => obtain ⟨vs, rfl⟩ := kd; exact .lst e1 r1.ls
    | dct b =>
      cases b with
      | false => obtain ⟨vs, rfl⟩ := kd; exact .dK e1 r1.ks
      | true => obtain ⟨vs, rfl⟩ := kd; exact .dT e1 r1.ts
theorem OwL.frz (s : Same F F') : ∀ {a : Addr} {kvs : List (Ky × V)} {ts : List (Ky × Tr)}, OwL K mg F H a kvs ts → (∀ q, ftL H ts kvs q → F' q = H q) → RdKs K mg F' kvs (Tr.toDs ts)
  | _, _, _, .nil, k => .nil
  | _, _, _, .cons h r _ _ _, k => .cons (Ow.frz s h fun q x => k q (by rw [ftL]; exact .inl x)) (OwL.frz s r fun q x => k q (by rw [ftL]; exact .inr x))
end
/-- an expression's end, made a value or a name -/
theorem RdW.toSt {w : W} (R : Rs c F σ H ρ) (h : RdW c F σ H ρ x w) : ∃ F', Same F F' ∧ Rs c F' σ H ρ ∧ RdW c F' σ H ρ x w.st := by
  cases w with
  | t d => exact ⟨F, Same.refl F, R, h⟩
  | o i => exact ⟨F, Same.refl F, R, h⟩
  | f ds =>
    obtain ⟨q, vs, rfl, n, h0, hq, r, no⟩ := h
    obtain ⟨R', s⟩ := R.freeze (S := fun z => z = q) fun z e => by subst e; exact ⟨n, h0, no⟩
    exact ⟨_, s, R', .lst ((fzH_in rfl).trans hq) (r.up s)⟩
  | g b es =>
    obtain ⟨q, rfl, n, h0, dc, no⟩ := h
    obtain ⟨R', s⟩ := R.freeze (S := fun z => z = q) fun z e => by subst e; exact ⟨n, h0, no⟩
    rcases dc with ⟨rfl, kvs, hq, r⟩ | ⟨rfl, kvs, hq, r⟩
    · exact ⟨_, s, R', .dK ((fzH_in rfl).trans hq) (r.up s)⟩
    · exact ⟨_, s, R', .dT ((fzH_in rfl).trans hq) (r.up s)⟩
  | u t =>
    obtain ⟨ow, n⟩ := h
    obtain ⟨R', s⟩ := R.freeze (S := fun z => ft H t x z) n
    exact ⟨_, s, R', ow.frz s fun q h => fzH_in h⟩
theorem set_ne {α : Type} {l : List α} {i j : Nat} {a : α} {b : Option α} (h : j ≠ i) : (l.set i a)[j]? = b ↔ l[j]? = b := by rw [List.getElem?_set_ne (Ne.symm h)]
theorem set_at {α : Type} {l : List α} {i : Nat} {a b : α} (h : (l.set i a)[i]? = some b) : b = a ∧ i < l.length := by
  have l' : i < (l.set i a).length := (List.getElem?_eq_some_iff.mp h).1
  rw [List.length_set] at l'
  rw [List.getElem?_set_self l'] at h
  cases h
  exact ⟨rfl, l'⟩
/-- slot i's own content becomes a value -/
theorem Rs.freezeAt {i : Nat} {s : Slot} {v : V} {d : D} (R : Rs c F σ H ρ) (hs : ρ[i]? = some s) (e : σ[i]? = some (some v)) (n : ∀ q, FtS σ H i s q → F q = none ∧ Fresh c q) (r : Rd c.K c.mg (fzH F H (FtS σ H i s)) v d) :
    Rs c (fzH F H (FtS σ H i s)) σ H (ρ.set i (.tr d)) := by
  have sm := fzH_same (F := F) (H := H) (S := FtS σ H i s) fun q h => (n q h).1
  refine R.gen i (R.toHk.freeze n) (by rw [List.length_set]; exact R.len) sm (fun j s' ne hj => ?_) fun s' hj => ?_
  · have hj := (set_ne ne).1 hj
    refine ⟨hj, rfl, fun q o hq ho t nf => ⟨ho, ?_⟩⟩
    rw [fzH_out fun z => ne (R.dj j i q ⟨s', hj, hq⟩ ⟨s, hs, z⟩)]
    exact nf
  · obtain ⟨rfl, _⟩ := set_at hj
    exact ⟨⟨v, e, r⟩, fun q h => h.elim⟩
theorem fz_ok {w : W} {d : D} {ρ' : Env} (R : Rs c F σ H ρ) (h : RdW c F σ H ρ x w) (e : fz w ρ = .ok d ρ') : ∃ F', Same F F' ∧ Rs c F' σ H ρ' ∧ Rd c.K c.mg F' x d := by
  cases w with
  | t d' => cases e; exact ⟨F, Same.refl F, R, h⟩
  | f ds => cases e; exact h.toSt R
  | g b es => cases e; exact h.toSt R
  | u t => cases e; exact h.toSt R
  | o i =>
    have es : σ[i]? = some (some x) := h
    dsimp only [fz] at e
    cases hs : ρ[i]? with
    | none => rw [hs] at e; cases e
    | some sl =>
      rw [hs] at e
      have r := R.sl i sl hs
      cases sl with
      | un => cases e
      | xe _ _ => cases e
      | tr d' =>
        cases e
        obtain ⟨v, e2, r⟩ := r
        rw [es] at e2; cases e2
        exact ⟨F, Same.refl F, R, r⟩
      | ol o2 ds =>
        cases o2 with
        | true => cases e
        | false =>
          cases e
          obtain ⟨q2, vs, e2, n2, h2, r, w⟩ := r
          rw [es] at e2; cases e2
          have nn : ∀ q, FtS σ H i (.ol false ds) q → F q = none ∧ Fresh c q := fun q hq => by
            have hq : σ[i]? = some (some (.ref q)) := hq
            rw [es] at hq; cases hq; exact ⟨n2, w⟩
          have rr : Rd c.K c.mg (fzH F H (FtS σ H i (.ol false ds))) (.ref q2) (.lst ds) := .lst ((fzH_in es).trans h2) (r.up (fzH_same fun q hq => (nn q hq).1))
          exact ⟨_, fzH_same fun q hq => (nn q hq).1, R.freezeAt hs es nn rr, rr⟩
      | od b kvs =>
        cases e
        obtain ⟨q2, e2, n2, h0, dc⟩ := r
        rw [es] at e2; cases e2
        have nn : ∀ q, FtS σ H i (.od b kvs) q → F q = none ∧ Fresh c q := fun q hq => by
          have hq : σ[i]? = some (some (.ref q)) := hq
          rw [es] at hq; cases hq; exact ⟨n2, h0⟩
        have sm := fzH_same (F := F) (H := H) (S := FtS σ H i (.od b kvs)) fun q hq => (nn q hq).1
        have rr : Rd c.K c.mg (fzH F H (FtS σ H i (.od b kvs))) (.ref q2) (.dct b kvs) := by
          rcases dc with ⟨rfl, kv, h2, r⟩ | ⟨rfl, kv, h2, r⟩
          · exact .dK ((fzH_in es).trans h2) (r.up sm)
          · exact .dT ((fzH_in es).trans h2) (r.up sm)
        exact ⟨_, sm, R.freezeAt hs es nn rr, rr⟩
      | ob m t =>
        cases m with
        | io _ => cases e
        | ro => cases e
        | mine =>
          cases e
          obtain ⟨v, e2, ow, n, _⟩ := r
          rw [es] at e2; cases e2
          have nn : ∀ q, FtS σ H i (.ob .mine t) q → F q = none ∧ Fresh c q := fun q hq => by
            obtain ⟨v2, e2, hq⟩ := hq
            rw [es] at e2; cases e2; exact n q hq
          have sm := fzH_same (F := F) (H := H) (S := FtS σ H i (.ob .mine t)) fun q hq => (nn q hq).1
          have rr : Rd c.K c.mg (fzH F H (FtS σ H i (.ob .mine t))) x t.toD := ow.frz sm fun q hq => fzH_in ⟨x, es, hq⟩
          exact ⟨_, sm, R.freezeAt hs es nn rr, rr⟩
end
end Dx

namespace Dx
open PySem PySem.Spec PyProof.Rows L2 Hx
/-! ## wishes weakened -/
section
variable {X : Cx}
theorem peI {e : Expr} {t t' : TE} (h : PE X e t) (i : ∀ σ H Q, t' σ H Q → t σ H Q) : PE X e t' := ⟨fun pins s σ H Q I q => h.run pins s σ H Q I (i σ H Q q)⟩
theorem ptI {e : Expr} {t t' : TT} (h : PT X e t) (i : ∀ σ H Q, t' σ H Q → t σ H Q) : PT X e t' := ⟨fun pins s σ H Q I q => h.run pins s σ H Q I (i σ H Q q)⟩
theorem pwI {e : Expr} {t t' : TT} (h : PW X e t) (i : ∀ σ H Q, t' σ H Q → t σ H Q) : PW X e t' := ⟨fun w pins s σ H Q I q => h.run w pins s σ H Q I (i σ H Q q)⟩
theorem paI {e : List Expr} {t t' : TA} (h : PA X e t) (i : ∀ σ H Q, t' σ H Q → t σ H Q) : PA X e t' := ⟨fun pos pins s σ H Q I q => h.run pos pins s σ H Q I (i σ H Q q)⟩
theorem psI {e : Stmt} {t t' : TS} (h : PS X e t) (i : ∀ D σ H, t' D σ H → t D σ H) : PS X e t' := ⟨fun pins s σ H D I q => h.run pins s σ H D I (i D σ H q)⟩
theorem pssI {e : List Stmt} {t t' : TS} (h : PSs X e t) (i : ∀ D σ H, t' D σ H → t D σ H) : PSs X e t' := ⟨fun pins s σ H D I q => h.run pins s σ H D I (i D σ H q)⟩
theorem pgI {e : Expr} {t t' : TG} (h : PG X e t) (i : ∀ v σ H Q, t' v σ H Q → t v σ H Q) : PG X e t' := ⟨fun pins s σ H v u Q I r q => h.run pins s σ H v u Q I r (i v σ H Q q)⟩
theorem pgsI {e : List Expr} {t t' : TGs} (h : PGs X e t) (i : ∀ v σ H Q, t' v σ H Q → t v σ H Q) : PGs X e t' := ⟨fun pins s σ H v u Q I r q => h.run pins s σ H v u Q I r (i v σ H Q q)⟩
theorem piI {tg e : Expr} {t t' : TI} (h : PI X tg e t) (i : ∀ σ H R, t' σ H R → t σ H R) : PI X tg e t' := ⟨fun pins s σ H R I q => h.run pins s σ H R I (i σ H R q)⟩
theorem ptsI {e : List Expr} {t t' : TT} (h : PTs X e t) (i : ∀ σ H Q, t' σ H Q → t σ H Q) : PTs X e t' := ⟨fun pins s σ H Q I q => h.run pins s σ H Q I (i σ H Q q)⟩
theorem poI {e : Option Expr} {t t' : TO} (h : PO X e t) (i : ∀ σ H Q, t' σ H Q → t σ H Q) : PO X e t' := ⟨fun pins s σ H Q I q => h.run pins s σ H Q I (i σ H Q q)⟩
end
/-! ## the lifts -/
def ExP {K : PySem.W.Frag} {mg : Str → Option Value} (c : Ctx K mg) (wx : WX) (F : Hp) (_ : L2.St) (cn : Str) (fs : List (Str × D)) (ρ : Env) : Prop :=
  ∀ C dd fsV F' H' σ, c.mg cn = some (.ref C) → Same F F' → Rs c F' σ H' ρ → F' dd = some (.xd fsV) → RdF c.K c.mg F' fsV fs → wx (.ref C) (some dd) σ H'
def Pst {K : PySem.W.Frag} {mg : Str → Option Value} {α : Type} (c : Ctx K mg) (wx : WX) (F : Hp) (σ : L2.St) (z : Z α) (k : α → Env → Prop) : Prop :=
  match z with
  | .ok a ρ => k a ρ
  | .ex cn fs ρ => ExP c wx F σ cn fs ρ
  | .bad => False
section
variable {K : PySem.W.Frag} {mg : Str → Option Value} {c : Ctx K mg} {wx : WX} {F F1 : Hp} {σ : L2.St} {α β : Type}
theorem Pst.bnd {z : Z α} {k : α → Env → Z β} {q : β → Env → Prop} (h : Pst c wx F σ (z.bind k) q) : Pst c wx F σ z fun a ρ => Pst c wx F σ (k a ρ) q := by
  cases z <;> exact h
theorem Pst.up {z : Z α} {q q' : α → Env → Prop} (s : Same F F1) (h : Pst c wx F σ z q) (i : ∀ a ρ, q a ρ → q' a ρ) : Pst c wx F1 σ z q' := by
  cases z with
  | ok a ρ => exact i a ρ h
  | ex cn fs ρ => exact fun C dd fsV F' H' σ m s' R hd r => h C dd fsV F' H' σ m (s.trans s') R hd r
  | bad => exact h
theorem Pst.im {z : Z α} {q q' : α → Env → Prop} (h : Pst c wx F σ z q) (i : ∀ a ρ, q a ρ → q' a ρ) : Pst c wx F σ z q' := h.up (Same.refl F) i
end
def liftE {K : PySem.W.Frag} {mg : Str → Option Value} (c : Ctx K mg) (wx : WX) (m : EM) : TE := fun σ H Q => ∃ F ρ, Rs c F σ H ρ ∧ Pst c wx F σ (m ρ) fun w ρ' => ∀ x F' H', Same F F' → Rs c F' σ H' ρ' → RdW c F' σ H' ρ' x w → Q x H'
def liftT {K : PySem.W.Frag} {mg : Str → Option Value} (c : Ctx K mg) (wx : WX) (m : TM) : TT := fun σ H Q => ∃ F ρ, Rs c F σ H ρ ∧ Pst c wx F σ (m ρ) fun b ρ' => ∀ F' H', Same F F' → Rs c F' σ H' ρ' → Q b H'
inductive RdWs {K : PySem.W.Frag} {mg : Str → Option Value} (c : Ctx K mg) (F : Hp) (σ : L2.St) (H : Hp) (ρ : Env) : List V → List W → Prop
  | nil : RdWs c F σ H ρ [] []
  | cons {x : V} {w : W} {xs : List V} {ws : List W} (e : w.st = w) (h : RdW c F σ H ρ x w) (r : RdWs c F σ H ρ xs ws) : RdWs c F σ H ρ (x :: xs) (w :: ws)
theorem RdWs.up {K : PySem.W.Frag} {mg : Str → Option Value} {c : Ctx K mg} {F F1 H H1 : Hp} {σ : L2.St} {ρ ρ1 : Env} (s : Same F F1) : ∀ {xs : List V} {ws : List W}, RdWs c F σ H ρ xs ws → RdWs c F1 σ H1 ρ1 xs ws
  | _, _, .nil => .nil
  | _, _, .cons e h r => .cons e (h.st_up s e) (RdWs.up s r)
def liftA {K : PySem.W.Frag} {mg : Str → Option Value} (c : Ctx K mg) (wx : WX) (m : AM) : TA := fun σ H Q => ∃ F ρ, Rs c F σ H ρ ∧ Pst c wx F σ (m ρ) fun ws ρ' => ∀ xs F' H', Same F F' → Rs c F' σ H' ρ' → RdWs c F' σ H' ρ' xs ws → Q xs H'
def SgP {K : PySem.W.Frag} {mg : Str → Option Value} (c : Ctx K mg) (F : Hp) (ρ' : Env) (D : Ends) (sg : Sig) : Prop := match sg with
  | .nx => ∀ σ' F' H', Same F F' → Rs c F' σ' H' ρ' → D.nx σ' H'
  | .bk => ∀ σ' F' H', Same F F' → Rs c F' σ' H' ρ' → D.bk σ' H'
  | .ct => ∀ σ' F' H', Same F F' → Rs c F' σ' H' ρ' → D.ct σ' H'
  | .rt w => ∀ x σ' F' H', Same F F' → Rs c F' σ' H' ρ' → RdW c F' σ' H' ρ' x w → D.rt x H'
theorem SgP.up {K : PySem.W.Frag} {mg : Str → Option Value} {c : Ctx K mg} {F F1 : Hp} {ρ' : Env} {D : Ends} {sg : Sig} (s : Same F F1) (h : SgP c F ρ' D sg) : SgP c F1 ρ' D sg := by
  cases sg with
  | nx => exact fun σ' F' H' s' R => h σ' F' H' (s.trans s') R
  | bk => exact fun σ' F' H' s' R => h σ' F' H' (s.trans s') R
  | ct => exact fun σ' F' H' s' R => h σ' F' H' (s.trans s') R
  | rt w => exact fun x σ' F' H' s' R r => h x σ' F' H' (s.trans s') R r
def liftS {K : PySem.W.Frag} {mg : Str → Option Value} (c : Ctx K mg) (wx : WX) (m : SM) : TS := fun D σ H => ∃ F ρ, Rs c F σ H ρ ∧ Pst c wx F σ (m ρ) fun sg ρ' => SgP c F ρ' D sg
end Dx

namespace Dx
open PySem PySem.Spec PyProof.Rows L2 Hx
/-! ## a look at a value; what an operation gives -/
def toW : Option W → Env → Z W
  | some (.t d), ρ => .ok (.t d) ρ
  | some (.f ds), ρ => .ok (.f ds) ρ
  | some (.g b es), ρ => .ok (.g b es) ρ
  | some (.o _), _ => .bad
  | some (.u _), _ => .bad
  | none, _ => .bad
def Pk (K : PySem.W.Frag) (mg : Str → Option Value) (F H : Hp) (x : V) (d : D) : Prop :=
  Rd K mg F x d ∨ (∃ q vs ds, x = .ref q ∧ d = .lst ds ∧ H q = some (.lst vs) ∧ RdL K mg F vs ds) ∨ ∃ q b es, x = .ref q ∧ d = .dct b es ∧ DcAt K mg F H q b es
def Res (K : PySem.W.Frag) (mg : Str → Option Value) (F H : Hp) (w : Option W) (Q : VK) : Prop :=
  match w with
  | some (.t z) => ∀ v F' H', Adv F H F' H' → Rd K mg F' v z → Q v H'
  | some (.f zs) => ∀ q vs, H q = none → RdL K mg F vs zs → Q (.ref q) (upd H q (.lst vs))
  | some (.g false es) => ∀ q kvs, H q = none → RdK K mg F kvs es → Q (.ref q) (upd H q (.dK kvs))
  | some (.g true es) => ∀ q kvs, H q = none → RdT K mg F kvs es → Q (.ref q) (upd H q (.dT kvs))
  | _ => False
section
variable {K : PySem.W.Frag} {mg : Str → Option Value} {F H : Hp} {x : V}
theorem Pk.int {i : Int} (h : Pk K mg F H x (.int i)) : x = .int i := by
  rcases h with h | ⟨_, _, _, _, e, _⟩ | ⟨_, _, _, _, e, _⟩
  · exact h.inv_int
  · cases e
  · cases e
theorem Pk.str {s : Str} (h : Pk K mg F H x (.str s)) : x = .str s := by
  rcases h with h | ⟨_, _, _, _, e, _⟩ | ⟨_, _, _, _, e, _⟩
  · exact h.inv_str
  · cases e
  · cases e
theorem Pk.bl {b : Bool} (h : Pk K mg F H x (.bl b)) : x = .bl b := by
  rcases h with h | ⟨_, _, _, _, e, _⟩ | ⟨_, _, _, _, e, _⟩
  · exact h.inv_bl
  · cases e
  · cases e
theorem Pk.ty {n : String} (h : Pk K mg F H x (.ty n)) : x = .ty n := by
  rcases h with h | ⟨_, _, _, _, e, _⟩ | ⟨_, _, _, _, e, _⟩
  · cases h; rfl
  · cases e
  · cases e
theorem Pk.non (h : Pk K mg F H x .non) : x = .non := by
  rcases h with h | ⟨_, _, _, _, e, _⟩ | ⟨_, _, _, _, e, _⟩
  · exact h.inv_non
  · cases e
  · cases e
theorem Pk.lst {ds : List D} (u : Up F H) (h : Pk K mg F H x (.lst ds)) : ∃ q vs, x = .ref q ∧ H q = some (.lst vs) ∧ RdL K mg F vs ds := by
  rcases h with h | ⟨q, vs, ds, e1, e, h, r⟩ | ⟨_, _, _, _, e, _⟩
  · obtain ⟨a, vs, e, h, r⟩ := h.inv_lst; exact ⟨a, vs, e, u.lst h, r⟩
  · cases e; exact ⟨q, vs, e1, h, r⟩
  · cases e
theorem Pk.tup {ds : List D} (u : Up F H) (h : Pk K mg F H x (.tup ds)) : ∃ q vs, x = .ref q ∧ H q = some (.tup vs) ∧ RdL K mg F vs ds := by
  rcases h with h | ⟨_, _, _, _, e, _⟩ | ⟨_, _, _, _, e, _⟩
  · obtain ⟨a, vs, e, h, r⟩ := h.inv_tup; exact ⟨a, vs, e, u.tup h, r⟩
  · cases e
  · cases e
theorem Pk.dct {b : Bool} {es : List (D × D)} (u : Up F H) (h : Pk K mg F H x (.dct b es)) : ∃ q, x = .ref q ∧ ((b = false ∧ ∃ kvs, L2.Rd H q (.dK kvs) ∧ RdK K mg F kvs es) ∨ (b = true ∧ ∃ kvs, L2.Rd H q (.dT kvs) ∧ RdT K mg F kvs es)) := by
  rcases h with h | ⟨_, _, _, _, e, _⟩ | ⟨q, b, es, e1, e, h⟩
  · cases h with
    | dK h r => exact ⟨_, rfl, .inl ⟨rfl, _, u.rd h, r⟩⟩
    | dT h r => exact ⟨_, rfl, .inr ⟨rfl, _, u.rd h, r⟩⟩
  · cases e
  · cases e
    rcases h with ⟨e, kvs, h, r⟩ | ⟨e, kvs, h, r⟩
    · exact ⟨q, e1, .inl ⟨e, kvs, .of h, r⟩⟩
    · exact ⟨q, e1, .inr ⟨e, kvs, .of h, r⟩⟩
theorem Pk.scr {ds : List D} (u : Up F H) (h : Pk K mg F H x (.scr ds)) : ∃ q vs, x = .ref q ∧ SqL K H q vs ∧ RdL K mg F vs ds := by
  rcases h with h | ⟨_, _, _, _, e, _⟩ | ⟨_, _, _, _, e, _⟩
  · cases h with | scr h r => exact ⟨_, _, rfl, u.seq h, r⟩
  · cases e
  · cases e
/-- a scalar given -/
theorem Res.sc {z : D} {v : V} {Q : VK} (u : Up F H) (h : Res K mg F H (some (.t z)) Q) (r : ∀ F, Rd K mg F v z) : Q v H := h v F H (Adv.refl u) (r F)
theorem Res.rd {z : D} {v : V} {Q : VK} (u : Up F H) (h : Res K mg F H (some (.t z)) Q) (r : Rd K mg F v z) : Q v H := h v F H (Adv.refl u) r
theorem Res.tupN {zs : List D} {vs : List V} {q : Addr} {Q : VK} (u : Up F H) (h : Res K mg F H (some (.t (.tup zs))) Q) (n : H q = none) (r : RdL K mg F vs zs) : Q (.ref q) (upd H q (.tup vs)) :=
  h _ _ _ (Adv.put u n) (.tup upd_same (r.up (s_new (Same.refl F) (u.free n))))
end
def OpD2 (K : PySem.W.Frag) (mg : Str → Option Value) (r : R2) (f : D → D → Option W) : Prop :=
  ∀ F H x y d e Q, Up F H → Pk K mg F H x d → Pk K mg F H y e → Res K mg F H (f d e) Q → r x y H Q
def OpD1 (K : PySem.W.Frag) (mg : Str → Option Value) (r : V → Hp → VK → Prop) (f : D → Option W) : Prop :=
  ∀ F H x d Q, Up F H → Pk K mg F H x d → Res K mg F H (f d) Q → r x H Q
inductive PkL (K : PySem.W.Frag) (mg : Str → Option Value) (F H : Hp) : List V → List D → Prop
  | nil : PkL K mg F H [] []
  | cons {x : V} {d : D} {xs : List V} {ds : List D} (h : Pk K mg F H x d) (r : PkL K mg F H xs ds) : PkL K mg F H (x :: xs) (d :: ds)
def CaD (K : PySem.W.Frag) (mg : Str → Option Value) (r : List V → Hp → VK → Prop) (f : List D → Option W) : Prop :=
  ∀ F H xs ds Q, Up F H → PkL K mg F H xs ds → Res K mg F H (f ds) Q → r xs H Q
def MtD (K : PySem.W.Frag) (mg : Str → Option Value) (r : V → List V → Hp → VK → Prop) (f : D → List D → Option W) : Prop :=
  ∀ F H x xs d ds Q, Up F H → Pk K mg F H x d → PkL K mg F H xs ds → Res K mg F H (f d ds) Q → r x xs H Q
section
variable {K : PySem.W.Frag} {mg : Str → Option Value} {c : Ctx K mg} {wx : WX} {F H : Hp} {σ : L2.St} {ρ : Env} {x : V}
theorem Rs.pk {w : W} {d : D} (R : Rs c F σ H ρ) (h : RdW c F σ H ρ x w) (st : w.st = w) (e : pk w ρ = some d) : Pk c.K c.mg F H x d := by
  cases w with
  | t d' => cases e; exact .inl h
  | f ds => cases st
  | g b es => cases st
  | u t => cases st
  | o i =>
    have es : σ[i]? = some (some x) := h
    dsimp only [Dx.pk] at e
    cases hs : ρ[i]? with
    | none => rw [hs] at e; cases e
    | some sl =>
      rw [hs] at e
      have r := R.sl i sl hs
      cases sl with
      | un => cases e
      | xe _ _ => cases e
      | ob _ _ => cases e
      | tr d' =>
        cases e
        obtain ⟨v, e2, r⟩ := r
        rw [es] at e2; cases e2
        exact .inl r
      | ol o ds =>
        cases e
        obtain ⟨q2, vs, e2, n, h2, r, w⟩ := r
        rw [es] at e2; cases e2
        exact .inr (.inl ⟨q2, vs, ds, rfl, rfl, h2, r⟩)
      | od b kvs =>
        cases e
        obtain ⟨q2, e2, n, h0, dc⟩ := r
        rw [es] at e2; cases e2
        exact .inr (.inr ⟨q2, b, kvs, rfl, rfl, dc⟩)
/-- a new object that nobody holds yet -/
theorem Rs.alloc {q : Addr} {o : HO} (R : Rs c F σ H ρ) (n : H q = none) : Rs c F σ (upd H q o) ρ := R.adv (.newH R.up n)
theorem Rs.ftA {H' : Hp} {i : Nat} {q : Addr} (R : Rs c F σ H ρ) (hh : Same H H') : Ft σ H' ρ i q ↔ Ft σ H ρ i q := by
  constructor
  · rintro ⟨s, e, h⟩; exact ⟨s, e, (((R.sl i s e).keep (F' := F) (σ' := σ) (Same.refl F) rfl fun q o _ h _ n => ⟨hh _ _ h, n⟩).2 q).1 h⟩
  · rintro ⟨s, e, h⟩; exact ⟨s, e, (((R.sl i s e).keep (F' := F) (σ' := σ) (Same.refl F) rfl fun q o _ h _ n => ⟨hh _ _ h, n⟩).2 q).2 h⟩
theorem Rs.noNew {q : Addr} {o : HO} (R : Rs c F σ H ρ) (n : H q = none) : ∀ i, ¬ Ft σ (upd H q o) ρ i q := fun i h => R.notOwn n i ((R.ftA (s_new (Same.refl H) n)).1 h)
/-- from what is wanted behind an expression to an operation's wish -/
theorem Rs.res {ow : Option W} {Q : VK} (R : Rs c F σ H ρ) (p : Pst c wx F σ (toW ow ρ) fun w ρ' => ∀ x F' H', Same F F' → Rs c F' σ H' ρ' → RdW c F' σ H' ρ' x w → Q x H') : Res c.K c.mg F H ow Q := by
  cases ow with
  | none => exact p
  | some w =>
    cases w with
    | t z => exact fun v F' H' a r => p v F' H' a.ff (R.adv a) r
    | o i => exact p
    | u t => exact p
    | f zs => exact fun q vs n r => p _ F _ (Same.refl F) (R.alloc n) ⟨q, vs, rfl, R.up.free n, R.none0 n, upd_same, r, R.noNew n⟩
    | g b es =>
      cases b with
      | false => exact fun q kvs n r => p _ F _ (Same.refl F) (R.alloc n) ⟨q, rfl, R.up.free n, R.none0 n, .inl ⟨rfl, kvs, upd_same, r⟩, R.noNew n⟩
      | true => exact fun q kvs n r => p _ F _ (Same.refl F) (R.alloc n) ⟨q, rfl, R.up.free n, R.none0 n, .inr ⟨rfl, kvs, upd_same, r⟩, R.noNew n⟩
end
end Dx

namespace Dx
open PySem PySem.Spec PyProof.Rows L2 Hx
/-! ## expressions -/
namespace E
def varR : Option Slot → Nat → Env → Z W
  | some (.tr d), _, ρ => .ok (.t d) ρ
  | some (.ol _ _), i, ρ => .ok (.o i) ρ
  | some (.od _ _), i, ρ => .ok (.o i) ρ
  | some (.ob _ _), i, ρ => .ok (.o i) ρ
  | some (.xe _ _), _, _ => .bad
  | some .un, _, _ => .bad
  | none, _, _ => .bad
@[simp] def var (i : Nat) (ρ : Env) : Z W := varR ρ[i]? i ρ
@[simp] def k (d : D) (ρ : Env) : Z W := .ok (.t d) ρ
def ap2 (f : D → D → Option W) : Option D → Option D → Env → Z W
  | some d1, some d2, ρ => toW (f d1 d2) ρ
  | none, _, _ => .bad
  | some _, none, _ => .bad
def ap1 (f : D → Option W) : Option D → Env → Z W
  | some d1, ρ => toW (f d1) ρ
  | none, _ => .bad
@[simp] def op2 (f : D → D → Option W) (a b : EM) (ρ : Env) : Z W := (a ρ).bind fun w1 ρ1 => (b ρ1).bind fun w2 ρ2 => ap2 f (pk w1.st ρ2) (pk w2.st ρ2) ρ2
@[simp] def op1 (f : D → Option W) (a : EM) (ρ : Env) : Z W := (a ρ).bind fun w1 ρ1 => ap1 f (pk w1.st ρ1) ρ1
/-- the truth of a value -/
def truD : D → Option Bool
  | .bl b => some b
  | .non => some false
  | .int i => some (i != 0)
  | .str s => if s.length ≤ 16777216 then some ((s.length : Int) != 0) else none
  | .lst ds => some (!ds.isEmpty)
  | .tup ds => some (!ds.isEmpty)
  | _ => none
def anD (b : EM) (d : D) : Option Bool → Env → Z W
  | some true, ρ => b ρ
  | some false, ρ => .ok (.t d) ρ
  | none, _ => .bad
def orD (b : EM) (d : D) : Option Bool → Env → Z W
  | some true, ρ => .ok (.t d) ρ
  | some false, ρ => b ρ
  | none, _ => .bad
/-- a truth behind a first one -/
def andR (b : EM) : W → Env → Z W
  | .t d, ρ => anD b d (truD d) ρ
  | _, _ => .bad
def orR (b : EM) : W → Env → Z W
  | .t d, ρ => orD b d (truD d) ρ
  | _, _ => .bad
def notR : W → Env → Z W
  | .t (.bl x), ρ => .ok (.t (.bl (!x))) ρ
  | _, _ => .bad
@[simp] def and (a b : EM) (ρ : Env) : Z W := (a ρ).bind fun w1 ρ1 => andR b w1 ρ1
@[simp] def or (a b : EM) (ρ : Env) : Z W := (a ρ).bind fun w1 ρ1 => orR b w1 ρ1
@[simp] def not (a : EM) (ρ : Env) : Z W := (a ρ).bind fun w1 ρ1 => notR w1 ρ1
@[simp] def ite (t : TM) (a b : EM) (ρ : Env) : Z W := (t ρ).bind fun x ρ1 => if x = true then a ρ1 else b ρ1
def chR (k : Env → Z W) : Option W → Env → Z W
  | some (.t (.bl true)), ρ => k ρ
  | some (.t (.bl false)), ρ => .ok (.t (.bl false)) ρ
  | _, _ => .bad
def chA (f : D → D → Option W) (k : Env → Z W) : Option D → Option D → Env → Z W
  | some d1, some d2, ρ => chR k (f d1 d2) ρ
  | none, _, _ => .bad
  | some _, none, _ => .bad
@[simp] def chain (f g : D → D → Option W) (a b e : EM) (ρ : Env) : Z W := (a ρ).bind fun w1 ρ1 => (b ρ1).bind fun w2 ρ2 =>
  chA f (fun ρ2 => (e ρ2).bind fun w3 ρ3 => ap2 g (pk w2.st ρ3) (pk w3.st ρ3) ρ3) (pk w1.st ρ2) (pk w2.st ρ2) ρ2
end E
namespace A
@[simp] def nil (ρ : Env) : Z (List W) := .ok [] ρ
@[simp] def cons (a : EM) (b : AM) (ρ : Env) : Z (List W) := (a ρ).bind fun w ρ1 => (b ρ1).bind fun ws ρ2 => .ok (w.st :: ws) ρ2
end A
def consO : Option D → Option (List D) → Option (List D)
  | some d, some ds => some (d :: ds)
  | none, _ => none
  | some _, none => none
@[simp] def pks : List W → Env → Option (List D)
  | [], _ => some []
  | w :: ws, ρ => consO (pk w ρ) (pks ws ρ)
namespace E
@[simp] def tup (a : AM) (ρ : Env) : Z W := (a ρ).bind fun ws ρ1 => if ws.length ≤ 1000 then (fzs ws ρ1).bind fun ds ρ2 => .ok (.t (.tup ds)) ρ2 else .bad
@[simp] def lst (a : AM) (ρ : Env) : Z W := (a ρ).bind fun ws ρ1 => if ws.length ≤ 1000 then (fzs ws ρ1).bind fun ds ρ2 => .ok (.f ds) ρ2 else .bad
def apL (f : List D → Option W) : Option (List D) → Env → Z W
  | some ds, ρ => toW (f ds) ρ
  | none, _ => .bad
/-- a built-in called: a look at its arguments -/
@[simp] def cb (f : List D → Option W) (a : AM) (ρ : Env) : Z W := (a ρ).bind fun ws ρ1 => apL f (pks ws ρ1) ρ1
/-- a def called -/
def frW : Fr → Env → Z W
  | .ok (.t d) _, ρ => .ok (.t d) ρ
  | .ok (.f ds) _, ρ => .ok (.f ds) ρ
  | .ok (.g b es) _, ρ => .ok (.g b es) ρ
  | .ok (.u t) _, ρ => .ok (.u t) ρ
  | .ok (.o _) _, _ => .bad
  | .ex c fs _, ρ => .ex c fs ρ
  | .bad, _ => .bad
@[simp] def call (n : Nat) (m : List D → Fr) (a : AM) (ρ : Env) : Z W := (a ρ).bind fun ws ρ1 => (fzs ws ρ1).bind fun ds ρ2 => if ds.length = n then frW (m ds) ρ2 else .bad
/-- a def called with the io list in slot i as its first argument -/
def frI (i : Nat) (o : Bool) : Fr → Env → Z W
  | .ok w zs', ρ => frW (.ok w []) (ρ.set i (.ol o zs'))
  | .ex c fs zs', ρ => .ex c fs (ρ.set i (.ol o zs'))
  | .bad, _ => .bad
def caI (m : List D → List D → Fr) (ds : List D) (i : Nat) : Option Slot → Env → Z W
  | some (.ol o zs), ρ => frI i o (m zs ds) ρ
  | _, _ => .bad
def isOl : Option Slot → Bool
  | some (.ol _ _) => true
  | _ => false
@[simp] def callI (n : Nat) (m : List D → List D → Fr) (i : Nat) (a : AM) (ρ : Env) : Z W := if isOl ρ[i]? = true then (a ρ).bind fun ws ρ1 => (fzs ws ρ1).bind fun ds ρ2 => if ds.length = n then caI m ds i ρ2[i]? ρ2 else .bad
  else .bad
end E
namespace T
def valR : W → Env → Z Bool
  | .t (.bl b), ρ => .ok b ρ
  | _, _ => .bad
@[simp] def val (a : EM) (ρ : Env) : Z Bool := (a ρ).bind fun w ρ1 => valR w ρ1
@[simp] def and (a b : TM) (ρ : Env) : Z Bool := (a ρ).bind fun x ρ1 => if x = true then b ρ1 else .ok false ρ1
@[simp] def or (a b : TM) (ρ : Env) : Z Bool := (a ρ).bind fun x ρ1 => if x = true then .ok true ρ1 else b ρ1
@[simp] def not (a : TM) (ρ : Env) : Z Bool := (a ρ).bind fun x ρ1 => .ok (!x) ρ1
@[simp] def yes (ρ : Env) : Z Bool := .ok true ρ
end T
/-! ## their lifts -/
section
variable {X : Cx} {K : PySem.W.Frag} {mg : Str → Option Value} {c : Ctx K mg} {wx : WX} {a b e : Expr} {ma mb me : EM} {pos : Pos}
theorem pd_of {m : EM} {t : TE} (h : PE X e t) (i : ∀ σ H Q, liftE c wx m σ H Q → t σ H Q) : PE X e (liftE c wx m) := peI h i
theorem lift_var (i : Nat) (σ : L2.St) (H : Hp) (Q : VK) (h : liftE c wx (E.var i) σ H Q) : tVar i σ H Q := by
  obtain ⟨F, ρ, R, p⟩ := h
  dsimp only [E.var] at p
  cases hs : ρ[i]? with
  | none => rw [hs] at p; exact p.elim
  | some sl =>
    rw [hs] at p
    have r := R.sl i sl hs
    cases sl with
    | un => exact p.elim
    | tr d => obtain ⟨v, e, r⟩ := r; exact ⟨v, e, p v F H (Same.refl F) R r⟩
    | ol o ds => obtain ⟨q, vs, e, _⟩ := r; exact ⟨_, e, p _ F H (Same.refl F) R e⟩
    | od b es => obtain ⟨q, e, _⟩ := r; exact ⟨_, e, p _ F H (Same.refl F) R e⟩
    | ob m t => obtain ⟨v, e, _⟩ := r; exact ⟨_, e, p _ F H (Same.refl F) R e⟩
    | xe _ _ => exact p.elim
theorem pd_var {i : Nat} (h : PE X e (tVar i)) : PE X e (liftE c wx (E.var i)) := pd_of h (lift_var i)
theorem pd_c {v : V} {d : D} (h : PE X e (tC v)) (r : ∀ F, Rd c.K c.mg F v d) : PE X e (liftE c wx (E.k d)) := pd_of h fun σ H Q ⟨F, ρ, R, p⟩ => p v F H (Same.refl F) R (r F)
theorem pd_cI {i : Int} (h : PE X e (tC (.int i))) : PE X e (liftE c wx (E.k (.int i))) := pd_c h fun _ => .int i
theorem pd_cS {s : Str} (h : PE X e (tC (.str s))) : PE X e (liftE c wx (E.k (.str s))) := pd_c h fun _ => .str s
theorem pd_cB {b : Bool} (h : PE X e (tC (.bl b))) : PE X e (liftE c wx (E.k (.bl b))) := pd_c h fun _ => .bl b
theorem pd_cN (h : PE X e (tC .non)) : PE X e (liftE c wx (E.k .non)) := pd_c h fun _ => .non
theorem lift_op2 {r : R2} {f : D → D → Option W} (hf : OpD2 c.K c.mg r f) (σ : L2.St) (H : Hp) (Q : VK) (h : liftE c wx (E.op2 f ma mb) σ H Q) : tOp r (liftE c wx ma) (liftE c wx mb) σ H Q := by
  obtain ⟨F, ρ, R, p⟩ := h
  refine ⟨F, ρ, R, p.bnd.im fun w1 ρ1 p x F1 H1 s1 R1 r1 => ?_⟩
  obtain ⟨F1', s1', R1', r1'⟩ := r1.toSt R1
  refine ⟨F1', ρ1, R1', p.bnd.up (s1.trans s1') fun w2 ρ2 p y F2 H2 s2 R2 r2 => ?_⟩
  obtain ⟨F2', s2', R2', r2'⟩ := r2.toSt R2
  have r1'' : RdW c F2' σ H2 ρ2 x w1.st := r1'.st_up (s2.trans s2') (by cases w1 <;> rfl)
  cases e1 : pk w1.st ρ2 with
  | none => rw [e1] at p; exact p.elim
  | some d1 =>
    cases e2 : pk w2.st ρ2 with
    | none => rw [e1, e2] at p; exact p.elim
    | some d2 =>
      rw [e1, e2] at p
      exact hf F2' H2 x y d1 d2 Q R2'.up (R2'.pk r1'' (by cases w1 <;> rfl) e1) (R2'.pk r2' (by cases w2 <;> rfl) e2)
        (R2'.res (Pst.up (((s1.trans s1').trans s2).trans s2') p fun w ρ' k x F' H' s => k x F' H' ((((s1.trans s1').trans s2).trans s2').trans s)))
theorem pd_op2 {r : R2} {f : D → D → Option W} (hf : OpD2 c.K c.mg r f) (h : PE X e (tOp r (liftE c wx ma) (liftE c wx mb))) : PE X e (liftE c wx (E.op2 f ma mb)) := pd_of h (lift_op2 hf)
theorem lift_op1 {r : V → Hp → VK → Prop} {f : D → Option W} (hf : OpD1 c.K c.mg r f) (σ : L2.St) (H : Hp) (Q : VK) (h : liftE c wx (E.op1 f ma) σ H Q) : tUn r (liftE c wx ma) σ H Q := by
  obtain ⟨F, ρ, R, p⟩ := h
  refine ⟨F, ρ, R, p.bnd.im fun w1 ρ1 p x F1 H1 s1 R1 r1 => ?_⟩
  obtain ⟨F1', s1', R1', r1'⟩ := r1.toSt R1
  cases e1 : pk w1.st ρ1 with
  | none => rw [e1] at p; exact p.elim
  | some d1 =>
    rw [e1] at p
    exact hf F1' H1 x d1 Q R1'.up (R1'.pk r1' (by cases w1 <;> rfl) e1) (R1'.res (p.up (s1.trans s1') fun w ρ' k x F' H' s => k x F' H' ((s1.trans s1').trans s)))
theorem pd_op1 {r : V → Hp → VK → Prop} {f : D → Option W} (hf : OpD1 c.K c.mg r f) (h : PE X e (tUn r (liftE c wx ma))) : PE X e (liftE c wx (E.op1 f ma)) := pd_of h (lift_op1 hf)
theorem Rd.bl_w {F H : Hp} {σ : L2.St} {ρ : Env} {x : V} {b : Bool} (h : RdW c F σ H ρ x (.t (.bl b))) : x = .bl b := Rd.inv_bl h
theorem tru_rd {F H : Hp} {x : V} {d : D} {k : Bool} (u : Up F H) (r : Rd c.K c.mg F x d) (h : E.truD d = some k) : TruV K x H k := by
  cases r with
  | non => cases h; rfl
  | bl b => cases h; rfl
  | int i => cases h; rfl
  | str s =>
    rw [E.truD] at h
    split at h
    · rename_i l; cases h; exact ⟨by rw [sizeLine_eq]; exact l, rfl⟩
    · cases h
  | lst h1 r1 => cases h; exact .inl ⟨_, sq_of (u.lst h1), by cases r1 <;> rfl⟩
  | tup h1 r1 => cases h; exact .inr (.inl ⟨_, st_of (u.tup h1), by cases r1 <;> rfl⟩)
  | _ => cases h
theorem lift_and (σ : L2.St) (H : Hp) (Q : VK) (h : liftE c wx (E.and ma mb) σ H Q) : tAndT K (liftE c wx ma) (liftE c wx mb) σ H Q := by
  obtain ⟨F, ρ, R, p⟩ := h
  refine ⟨F, ρ, R, p.bnd.im fun w1 ρ1 p x F1 H1 s1 R1 r1 => ?_⟩
  cases w1 with
  | t d =>
    have r1 : Rd c.K c.mg F1 x d := r1
    have p : Pst c wx F σ (E.anD mb d (E.truD d) ρ1) _ := p
    cases e : E.truD d with
    | none => rw [e] at p; exact p.elim
    | some b =>
      rw [e] at p
      refine ⟨b, tru_rd R1.up r1 e, ?_⟩
      cases b with
      | true => exact iteT ⟨F1, ρ1, R1, Pst.up s1 p fun w ρ' k x F' H' s => k x F' H' (s1.trans s)⟩
      | false => exact iteF (p _ F1 H1 s1 R1 r1)
  | _ => exact p.elim
theorem pd_and (h : PE X e (tAndT K (liftE c wx ma) (liftE c wx mb))) : PE X e (liftE c wx (E.and ma mb)) := pd_of h lift_and
theorem lift_or (σ : L2.St) (H : Hp) (Q : VK) (h : liftE c wx (E.or ma mb) σ H Q) : tOrT K (liftE c wx ma) (liftE c wx mb) σ H Q := by
  obtain ⟨F, ρ, R, p⟩ := h
  refine ⟨F, ρ, R, p.bnd.im fun w1 ρ1 p x F1 H1 s1 R1 r1 => ?_⟩
  cases w1 with
  | t d =>
    have r1 : Rd c.K c.mg F1 x d := r1
    have p : Pst c wx F σ (E.orD mb d (E.truD d) ρ1) _ := p
    cases e : E.truD d with
    | none => rw [e] at p; exact p.elim
    | some b =>
      rw [e] at p
      refine ⟨b, tru_rd R1.up r1 e, ?_⟩
      cases b with
      | true => exact iteT (p _ F1 H1 s1 R1 r1)
      | false => exact iteF ⟨F1, ρ1, R1, Pst.up s1 p fun w ρ' k x F' H' s => k x F' H' (s1.trans s)⟩
  | _ => exact p.elim
theorem pd_or (h : PE X e (tOrT K (liftE c wx ma) (liftE c wx mb))) : PE X e (liftE c wx (E.or ma mb)) := pd_of h lift_or
theorem pe_andTK {a b : Expr} {rest : List Expr} {pos : Pos} {ta tb : TE} (hK : X.K = K) (ha : PE X a ta) (hb : PE X (.BoolOp .And (b :: rest) pos) tb) : PE X (.BoolOp .And (a :: b :: rest) pos) (tAndT K ta tb) := by subst hK; exact pe_andT ha hb
theorem pe_orTK {a b : Expr} {rest : List Expr} {pos : Pos} {ta tb : TE} (hK : X.K = K) (ha : PE X a ta) (hb : PE X (.BoolOp .Or (b :: rest) pos) tb) : PE X (.BoolOp .Or (a :: b :: rest) pos) (tOrT K ta tb) := by subst hK; exact pe_orT ha hb
theorem lift_not (σ : L2.St) (H : Hp) (Q : VK) (h : liftE c wx (E.not ma) σ H Q) : tNotV (liftE c wx ma) σ H Q := by
  obtain ⟨F, ρ, R, p⟩ := h
  refine ⟨F, ρ, R, p.bnd.im fun w1 ρ1 p x F1 H1 s1 R1 r1 => ?_⟩
  cases w1 with
  | t d =>
    cases d with
    | bl b => exact ⟨b, Rd.bl_w r1, p _ F1 H1 s1 R1 (.bl _)⟩
    | _ => exact p.elim
  | _ => exact p.elim
theorem pd_not (h : PE X e (tNotV (liftE c wx ma))) : PE X e (liftE c wx (E.not ma)) := pd_of h lift_not
theorem lift_ite {t : TM} (σ : L2.St) (H : Hp) (Q : VK) (h : liftE c wx (E.ite t ma mb) σ H Q) : tIf (liftT c wx t) (liftE c wx ma) (liftE c wx mb) σ H Q := by
  obtain ⟨F, ρ, R, p⟩ := h
  refine ⟨F, ρ, R, p.bnd.im fun b ρ1 p F1 H1 s1 R1 => ?_⟩
  cases b with
  | true => exact ⟨F1, ρ1, R1, p.up s1 fun w ρ' k x F' H' s => k x F' H' (s1.trans s)⟩
  | false => exact ⟨F1, ρ1, R1, p.up s1 fun w ρ' k x F' H' s => k x F' H' (s1.trans s)⟩
theorem pd_ite {t : TM} (h : PE X e (tIf (liftT c wx t) (liftE c wx ma) (liftE c wx mb))) : PE X e (liftE c wx (E.ite t ma mb)) := pd_of h lift_ite
theorem lift_chain {r g : R2} {f f2 : D → D → Option W} (hf : OpD2 c.K c.mg r f) (hg : OpD2 c.K c.mg g f2) (σ : L2.St) (H : Hp) (Q : VK) (h : liftE c wx (E.chain f f2 ma mb me) σ H Q) : tChain r g (liftE c wx ma) (liftE c wx mb) (liftE c wx me) σ H Q := by
  obtain ⟨F, ρ, R, p⟩ := h
  refine ⟨F, ρ, R, p.bnd.im fun w1 ρ1 p x F1 H1 s1 R1 r1 => ?_⟩
  obtain ⟨F1', s1', R1', r1'⟩ := r1.toSt R1
  refine ⟨F1', ρ1, R1', p.bnd.up (s1.trans s1') fun w2 ρ2 p y F2 H2 s2 R2 r2 => ?_⟩
  obtain ⟨F2', s2', R2', r2'⟩ := r2.toSt R2
  have r1'' : RdW c F2' σ H2 ρ2 x w1.st := r1'.st_up (s2.trans s2') (by cases w1 <;> rfl)
  have sA := ((s1.trans s1').trans s2).trans s2'
  cases e1 : pk w1.st ρ2 with
  | none => rw [e1] at p; exact p.elim
  | some d1 =>
    cases e2 : pk w2.st ρ2 with
    | none => rw [e1, e2] at p; exact p.elim
    | some d2 =>
      rw [e1, e2] at p
      refine hf F2' H2 x y d1 d2 _ R2'.up (R2'.pk r1'' (by cases w1 <;> rfl) e1) (R2'.pk r2' (by cases w2 <;> rfl) e2) ?_
      dsimp only [E.chA] at p
      cases ef : f d1 d2 with
      | none => rw [ef] at p; exact p.elim
      | some w =>
        rw [ef] at p
        cases w with
        | t d =>
          cases d with
          | bl b =>
            intro v F' H' a r
            refine ⟨b, r.inv_bl, ?_⟩
            have R3 := R2'.adv a
            cases b with
            | true =>
              refine iteT ⟨F', ρ2, R3, Pst.up (sA.trans a.ff) (Pst.bnd p) fun w3 ρ3 p z F4 H4 s4 R4 r4 => ?_⟩
              obtain ⟨F4', s4', R4', r4'⟩ := r4.toSt R4
              have r2'' : RdW c F4' σ H4 ρ3 y w2.st := r2'.st_up ((a.ff.trans s4).trans s4') (by cases w2 <;> rfl)
              have sB := ((sA.trans a.ff).trans s4).trans s4'
              cases e3 : pk w2.st ρ3 with
              | none => rw [e3] at p; exact p.elim
              | some d2' =>
                cases e4 : pk w3.st ρ3 with
                | none => rw [e3, e4] at p; exact p.elim
                | some d3 =>
                  rw [e3, e4] at p
                  exact hg F4' H4 y z d2' d3 Q R4'.up (R4'.pk r2'' (by cases w2 <;> rfl) e3) (R4'.pk r4' (by cases w3 <;> rfl) e4) (R4'.res (Pst.up sB p fun w ρ' k x F' H' s => k x F' H' (sB.trans s)))
            | false => exact iteF (p _ F' H' (sA.trans a.ff) R3 (.bl false))
          | _ => exact p.elim
        | _ => exact p.elim
theorem pd_chain {r g : R2} {f f2 : D → D → Option W} (hf : OpD2 c.K c.mg r f) (hg : OpD2 c.K c.mg g f2) (h : PE X e (tChain r g (liftE c wx ma) (liftE c wx mb) (liftE c wx me))) : PE X e (liftE c wx (E.chain f f2 ma mb me)) := pd_of h (lift_chain hf hg)
/-! tests -/
theorem lift_val (σ : L2.St) (H : Hp) (Q : Bool → Hp → Prop) (h : liftT c wx (T.val ma) σ H Q) : tB (liftE c wx ma) σ H Q := by
  obtain ⟨F, ρ, R, p⟩ := h
  refine ⟨F, ρ, R, p.bnd.im fun w1 ρ1 p x F1 H1 s1 R1 r1 => ?_⟩
  cases w1 with
  | t d =>
    cases d with
    | bl b => exact ⟨b, Rd.bl_w r1, p F1 H1 s1 R1⟩
    | _ => exact p.elim
  | _ => exact p.elim
theorem pd_tval (h : PT X e (tB (liftE c wx ma))) : PT X e (liftT c wx (T.val ma)) := ptI h lift_val
theorem lift_cmp {r : R2} {f : D → D → Option W} (hf : OpD2 c.K c.mg r f) (σ : L2.St) (H : Hp) (Q : Bool → Hp → Prop) (h : liftT c wx (T.val (E.op2 f ma mb)) σ H Q) : tTest (tOp r (liftE c wx ma) (liftE c wx mb)) σ H Q := by
  have h1 := lift_val σ H Q h
  exact lift_op2 hf σ H _ h1
theorem pd_tcmp {r : R2} {f : D → D → Option W} (hf : OpD2 c.K c.mg r f) (h : PT X e (tTest (tOp r (liftE c wx ma) (liftE c wx mb)))) : PT X e (liftT c wx (T.val (E.op2 f ma mb))) := ptI h (lift_cmp hf)
theorem lift_tchain {r g : R2} {f f2 : D → D → Option W} (hf : OpD2 c.K c.mg r f) (hg : OpD2 c.K c.mg g f2) (σ : L2.St) (H : Hp) (Q : Bool → Hp → Prop) (h : liftT c wx (T.val (E.chain f f2 ma mb me)) σ H Q) : tTest (tChain r g (liftE c wx ma) (liftE c wx mb) (liftE c wx me)) σ H Q :=
  lift_chain hf hg σ H _ (lift_val σ H Q h)
theorem pd_tchain {r g : R2} {f f2 : D → D → Option W} (hf : OpD2 c.K c.mg r f) (hg : OpD2 c.K c.mg g f2) (h : PT X e (tTest (tChain r g (liftE c wx ma) (liftE c wx mb) (liftE c wx me)))) : PT X e (liftT c wx (T.val (E.chain f f2 ma mb me))) := ptI h (lift_tchain hf hg)
variable {ta tb : TM}
theorem lift_tand (σ : L2.St) (H : Hp) (Q : Bool → Hp → Prop) (h : liftT c wx (T.and ta tb) σ H Q) : tAnd (liftT c wx ta) (liftT c wx tb) σ H Q := by
  obtain ⟨F, ρ, R, p⟩ := h
  refine ⟨F, ρ, R, p.bnd.im fun b ρ1 p F1 H1 s1 R1 => ?_⟩
  cases b with
  | true => exact ⟨F1, ρ1, R1, Pst.up s1 p fun b ρ' k F' H' s => k F' H' (s1.trans s)⟩
  | false => exact p F1 H1 s1 R1
theorem pd_tand (h : PW X e (tAnd (liftT c wx ta) (liftT c wx tb))) : PW X e (liftT c wx (T.and ta tb)) := pwI h lift_tand
theorem lift_tor (σ : L2.St) (H : Hp) (Q : Bool → Hp → Prop) (h : liftT c wx (T.or ta tb) σ H Q) : tOr (liftT c wx ta) (liftT c wx tb) σ H Q := by
  obtain ⟨F, ρ, R, p⟩ := h
  refine ⟨F, ρ, R, p.bnd.im fun b ρ1 p F1 H1 s1 R1 => ?_⟩
  cases b with
  | true => exact p F1 H1 s1 R1
  | false => exact ⟨F1, ρ1, R1, Pst.up s1 p fun b ρ' k F' H' s => k F' H' (s1.trans s)⟩
theorem pd_tor (h : PW X e (tOr (liftT c wx ta) (liftT c wx tb))) : PW X e (liftT c wx (T.or ta tb)) := pwI h lift_tor
theorem lift_tnot (σ : L2.St) (H : Hp) (Q : Bool → Hp → Prop) (h : liftT c wx (T.not ta) σ H Q) : tNot (liftT c wx ta) σ H Q := by
  obtain ⟨F, ρ, R, p⟩ := h
  exact ⟨F, ρ, R, p.bnd.im fun b ρ1 p F1 H1 s1 R1 => p F1 H1 s1 R1⟩
theorem pd_tnot (h : PT X e (tNot (liftT c wx ta))) : PT X e (liftT c wx (T.not ta)) := ptI h lift_tnot
end
end Dx

namespace Dx
open PySem PySem.Spec PyProof.Rows L2 Hx
/-! ## arguments, displays, calls -/
section
variable {X : Cx} {K : PySem.W.Frag} {mg : Str → Option Value} {c : Ctx K mg} {wx : WX} {e : Expr} {es : List Expr} {ma mb me : EM} {mas : AM}
theorem pd_anil (h : PA X es tNil) : PA X es (liftA c wx A.nil) := paI h fun σ H Q ⟨F, ρ, R, p⟩ => p [] F H (Same.refl F) R .nil
theorem lift_cons (σ : L2.St) (H : Hp) (Q : List V → Hp → Prop) (h : liftA c wx (A.cons ma mas) σ H Q) : tCons (liftE c wx ma) (liftA c wx mas) σ H Q := by
  obtain ⟨F, ρ, R, p⟩ := h
  refine ⟨F, ρ, R, p.bnd.im fun w1 ρ1 p x F1 H1 s1 R1 r1 => ?_⟩
  obtain ⟨F1', s1', R1', r1'⟩ := r1.toSt R1
  refine ⟨F1', ρ1, R1', p.bnd.up (s1.trans s1') fun ws ρ2 p xs F2 H2 s2 R2 r2 => ?_⟩
  exact p _ F2 H2 ((s1.trans s1').trans s2) R2 (.cons (by cases w1 <;> rfl) (r1'.st_up s2 (by cases w1 <;> rfl)) r2)
theorem pd_acons (h : PA X es (tCons (liftE c wx ma) (liftA c wx mas))) : PA X es (liftA c wx (A.cons ma mas)) := paI h lift_cons
theorem fzs_ok {H : Hp} {σ : L2.St} : ∀ {xs : List V} {ws : List W} {ρ ρ0 : Env} {ds : List D} {ρ' : Env} {F : Hp}, Rs c F σ H ρ → RdWs c F σ H ρ0 xs ws → fzs ws ρ = .ok ds ρ' → ∃ F', Same F F' ∧ Rs c F' σ H ρ' ∧ RdL c.K c.mg F' xs ds
  | _, _, ρ, _, ds, ρ', F, R, .nil, e => by cases e; exact ⟨F, Same.refl F, R, .nil⟩
  | _, _, ρ, ρ0, ds, ρ', F, R, .cons (w := w) (ws := ws) st h r, e => by
    dsimp only [fzs, Z.bind] at e
    cases e1 : fz w ρ with
    | ex _ _ _ => rw [e1] at e; cases e
    | bad => rw [e1] at e; cases e
    | ok d ρ1 =>
      rw [e1] at e
      dsimp only at e
      cases e2 : fzs ws ρ1 with
      | ex _ _ _ => rw [e2] at e; cases e
      | bad => rw [e2] at e; cases e
      | ok ds2 ρ2 =>
        rw [e2] at e
        cases e
        obtain ⟨F1, s1, R1, r1⟩ := fz_ok R (h.st_up (ρ1 := ρ) (Same.refl F) st) e1
        obtain ⟨F2, s2, R2, r2⟩ := fzs_ok R1 (r.up s1 (ρ1 := ρ1) (H1 := H)) e2
        exact ⟨F2, s1.trans s2, R2, .cons (r1.up s2) r2⟩
theorem fz_ne {w : W} {ρ : Env} {cn : Str} {fs : List (Str × D)} {ρ' : Env} : fz w ρ ≠ .ex cn fs ρ' := by
  cases w with
  | o i =>
    dsimp only [fz]
    unfold fzS
    split <;> (intro h; cases h)
  | _ => intro h; cases h
theorem fzs_ne : ∀ {ws : List W} {ρ : Env} {cn : Str} {fs : List (Str × D)} {ρ' : Env}, fzs ws ρ ≠ .ex cn fs ρ'
  | [], _, _, _, _ => fun h => by cases h
  | w :: ws, ρ, cn, fs, ρ' => fun h => by
    dsimp only [fzs, Z.bind] at h
    cases e1 : fz w ρ with
    | ex _ _ _ => exact fz_ne e1
    | bad => rw [e1] at h; cases h
    | ok d ρ1 =>
      rw [e1] at h
      dsimp only at h
      cases e2 : fzs ws ρ1 with
      | ex _ _ _ => exact fzs_ne e2
      | bad => rw [e2] at h; cases h
      | ok ds2 ρ2 => rw [e2] at h; cases h
theorem RdWs.len {F H : Hp} {σ : L2.St} {ρ : Env} : ∀ {xs : List V} {ws : List W}, RdWs c F σ H ρ xs ws → xs.length = ws.length
  | _, _, .nil => rfl
  | _, _, .cons _ _ r => by simp [r.len]
/-- behind an argument list whose values are given away -/
theorem liftA_fz {σ : L2.St} {H : Hp} {α : Type} {k : List D → Env → Z α} {Q : α → Env → Prop} {G : List V → Hp → Prop} (h : ∃ F ρ, Rs c F σ H ρ ∧ Pst c wx F σ ((mas ρ).bind fun ws ρ1 => (fzs ws ρ1).bind k) Q ∧
    ∀ ds ρ2 xs F2 H2, Same F F2 → Rs c F2 σ H2 ρ2 → RdL c.K c.mg F2 xs ds → Pst c wx F2 σ (k ds ρ2) Q → G xs H2) : liftA c wx mas σ H G := by
  obtain ⟨F, ρ, R, p, go⟩ := h
  refine ⟨F, ρ, R, p.bnd.im fun ws ρ1 p xs F1 H1 s1 R1 r1 => ?_⟩
  cases e : fzs ws ρ1 with
  | bad => rw [e] at p; exact p.elim
  | ex _ _ _ => exact absurd e fzs_ne
  | ok ds ρ2 =>
    rw [e] at p
    obtain ⟨F2, s2, R2, r2⟩ := fzs_ok R1 r1 e
    exact go ds ρ2 xs F2 H1 (s1.trans s2) R2 r2 (Pst.up (s1.trans s2) p fun _ _ k => k)
theorem lift_tup (σ : L2.St) (H : Hp) (Q : VK) (h : liftE c wx (E.tup mas) σ H Q) : tTup (liftA c wx mas) σ H Q := by
  obtain ⟨F, ρ, R, p⟩ := h
  refine ⟨F, ρ, R, p.bnd.im fun ws ρ1 p xs F1 H1 s1 R1 r1 => ?_⟩
  by_cases l : ws.length ≤ 1000
  · rw [if_pos l] at p
    refine ⟨by rw [r1.len, sizeLine_eq]; omega, fun q nq => ?_⟩
    cases e : fzs ws ρ1 with
    | bad => rw [e] at p; exact p.elim
    | ex _ _ _ => exact absurd e fzs_ne
    | ok ds ρ2 =>
      rw [e] at p
      obtain ⟨F2, s2, R2, r2⟩ := fzs_ok R1 r1 e
      have a := Adv.put (o := .tup xs) R2.up nq
      exact p _ _ _ ((s1.trans s2).trans a.ff) (R2.adv a) (.tup upd_same (r2.up a.ff))
  · rw [if_neg l] at p; exact p.elim
theorem pd_tup (h : PE X e (tTup (liftA c wx mas))) : PE X e (liftE c wx (E.tup mas)) := pd_of h lift_tup
theorem lift_lst (σ : L2.St) (H : Hp) (Q : VK) (h : liftE c wx (E.lst mas) σ H Q) : tLst (liftA c wx mas) σ H Q := by
  obtain ⟨F, ρ, R, p⟩ := h
  refine ⟨F, ρ, R, p.bnd.im fun ws ρ1 p xs F1 H1 s1 R1 r1 => ?_⟩
  by_cases l : ws.length ≤ 1000
  · rw [if_pos l] at p
    refine ⟨by rw [r1.len, sizeLine_eq]; omega, fun q nq => ?_⟩
    cases e : fzs ws ρ1 with
    | bad => rw [e] at p; exact p.elim
    | ex _ _ _ => exact absurd e fzs_ne
    | ok ds ρ2 =>
      rw [e] at p
      obtain ⟨F2, s2, R2, r2⟩ := fzs_ok R1 r1 e
      exact p _ F2 _ (s1.trans s2) (R2.alloc nq) ⟨q, xs, rfl, R2.up.free nq, R2.none0 nq, upd_same, r2, R2.noNew nq⟩
  · rw [if_neg l] at p; exact p.elim
theorem pd_lst (h : PE X e (tLst (liftA c wx mas))) : PE X e (liftE c wx (E.lst mas)) := pd_of h lift_lst
theorem pks_ok {F H : Hp} {σ : L2.St} {ρ : Env} (R : Rs c F σ H ρ) : ∀ {xs : List V} {ws : List W} {ds : List D}, RdWs c F σ H ρ xs ws → pks ws ρ = some ds → PkL c.K c.mg F H xs ds
  | _, _, _, .nil, e => by cases e; exact .nil
  | _, _, _, .cons (w := w) (ws := ws) st h r, e => by
    dsimp only [pks] at e
    cases e1 : pk w ρ with
    | none => rw [e1] at e; cases e
    | some d =>
      cases e2 : pks ws ρ with
      | none => rw [e1, e2] at e; cases e
      | some ds =>
        rw [e1, e2] at e
        cases e
        exact .cons (R.pk h st e1) (pks_ok R r e2)
theorem lift_cb {r : List V → Hp → VK → Prop} {f : List D → Option W} (hf : CaD c.K c.mg r f) (σ : L2.St) (H : Hp) (Q : VK) (h : liftE c wx (E.cb f mas) σ H Q) : tCB r (liftA c wx mas) σ H Q := by
  obtain ⟨F, ρ, R, p⟩ := h
  refine ⟨F, ρ, R, p.bnd.im fun ws ρ1 p xs F1 H1 s1 R1 r1 => ?_⟩
  cases e : pks ws ρ1 with
  | none => rw [e] at p; exact p.elim
  | some ds =>
    rw [e] at p
    exact hf F1 H1 xs ds Q R1.up (pks_ok R1 r1 e) (R1.res (Pst.up s1 p fun w ρ' k x F' H' s => k x F' H' (s1.trans s)))
theorem pd_cb {r : List V → Hp → VK → Prop} {f : List D → Option W} (hf : CaD c.K c.mg r f) (h : PE X e (tCB r (liftA c wx mas))) : PE X e (liftE c wx (E.cb f mas)) := pd_of h (lift_cb hf)
/-! methods that only read -/
/-! a def called -/
def RdR (K : PySem.W.Frag) (mg : Str → Option Value) (F' H H' : Hp) (x : V) : W → Prop
  | .t d => Rd K mg F' x d
  | .f ds => ∃ q vs, x = .ref q ∧ F' q = none ∧ H q = none ∧ H' q = some (.lst vs) ∧ RdL K mg F' vs ds
  | .g b es => ∃ q, x = .ref q ∧ F' q = none ∧ H q = none ∧ DcAt K mg F' H' q b es
  | .u t => Ow K mg F' H' x t ∧ ∀ q, ft H' t x q → F' q = none ∧ H q = none
  | .o _ => False
/-- the cells of what a def gives -/
def CeW (H' : Hp) (x : V) : W → Addr → Prop
  | .f _, q => x = .ref q
  | .g _ _, q => x = .ref q
  | .u t, q => ft H' t x q
  | .t _, _ => False
  | .o _, _ => False
def FrPost (K : PySem.W.Frag) (mg : Str → Option Value) (F H : Hp) (r : Fr) (Q : VK) (E : XK) : Prop :=
  match r with
  | .ok w _ => ∀ x F' H', Adv F H F' H' → RdR K mg F' H H' x w → Q x H'
  | .ex cn fs _ => ∀ C dd fsV F' H', mg cn = some (.ref C) → Adv F H F' H' → F' dd = some (.xd fsV) → RdF K mg F' fsV fs → E (.ref C) (some dd) H'
  | .bad => False
def spP (K : PySem.W.Frag) (mg : Str → Option Value) (n : Nat) (m : List D → Fr) : Sp := fun vs H Q E => vs.length = n ∧ ∃ F ds, Up F H ∧ RdL K mg F vs ds ∧ FrPost K mg F H (m ds) Q E
/-- a step of a callee that writes to the cells of S -/
structure AdvI (S : Addr → Prop) (F H F' H' : Hp) : Prop where
  ff : Same F F'
  hh : ∀ q o, ¬ S q → H q = some o → H' q = some o
  fh : Up F' H'
  nw : ∀ q, F' q ≠ none → F q = none → H q = none ∨ ∃ vs, H q = some (.tup vs)
  io : ∀ q, S q → ∃ o, H' q = some o ∧ notTup o
  st : Stb H H'
def FrPostI (K : PySem.W.Frag) (mg : Str → Option Value) (p : Addr) (F H : Hp) (r : Fr) (Q : VK) (E : XK) : Prop :=
  match r with
  | .ok w io => ∀ x F' H' vs, AdvI (fun q => q = p) F H F' H' → RdR K mg F' H H' x w → H' p = some (.lst vs) → RdL K mg F' vs io → Q x H'
  | .ex cn fs io => ∀ C dd fsV F' H' vs, mg cn = some (.ref C) → AdvI (fun q => q = p) F H F' H' → F' dd = some (.xd fsV) → RdF K mg F' fsV fs → H' p = some (.lst vs) → RdL K mg F' vs io → E (.ref C) (some dd) H'
  | .bad => False
def spI (K : PySem.W.Frag) (mg : Str → Option Value) (n : Nat) (m : List D → List D → Fr) : Sp := fun vs H Q E => vs.length = n + 1 ∧ ∃ F p us ios zs ds, vs = .ref p :: us ∧ Up F H ∧ F p = none ∧ H p = some (.lst ios) ∧ RdL K mg F ios zs ∧ RdL K mg F us ds ∧ FrPostI K mg p F H (m zs ds) Q E
section
variable {F H F' H' : Hp} {σ : L2.St} {ρ ρ1 : Env} {x : V} {w : W} {S : Addr → Prop} {q : Addr} {o : HO}
theorem AdvI.keepN (a : AdvI S F H F' H') (n : F q = none) (h : H q = some o) (t : notTup o) : F' q = none := by
  apply not_some
  intro z
  rcases a.nw q z n with e | ⟨vs, e⟩
  · rw [h] at e; cases e
  · rw [h] at e; cases e; exact t
theorem Hk.advI (R : Hk c F H) (a : AdvI S F H F' H') (hS : ∀ q, S q → F q = none ∧ (c.H0 q = none ∨ c.io q) ∧ c.P q = none) : Hk c F' H' := by
  refine ⟨a.fh, R.up0.trans a.ff, fun q o h e l => a.hh _ _ (fun z => ?_) (R.fr q o h e l), fun q h n => ?_, fun q e => ?_, R.io0, fun q o h => ?_, fun q o h => ?_, R.st.trans a.st⟩
  · rcases (hS q z).2.1 with y | y
    · rw [h] at y; cases y
    · exact e y
  · by_cases z : F q = none
    · rcases a.nw q h z with e | ⟨vs, e⟩
      · exact .inl (R.none0 e).1
      · cases e0 : c.H0 q with
        | none => exact .inl rfl
        | some o =>
          by_cases io : c.io q
          · obtain ⟨o', h', t⟩ := R.ioH q io; rw [h'] at e; cases e; exact t.elim
          · cases l : c.lk q with
            | none => rw [R.fr q o e0 io l] at e; cases e; exact .inr ⟨vs, rfl⟩
            | some o' => exact absurd z (R.lk q o' l).2
    · exact R.nw q z n
  · by_cases z : S q
    · exact a.io q z
    · obtain ⟨o, ho, t⟩ := R.ioH q e; exact ⟨o, a.hh _ _ z ho, t⟩
  · obtain ⟨h1, h2, h3⟩ := R.pr q o h
    exact ⟨a.hh _ _ (fun z => by rw [(hS q z).2.2] at h; cases h) h1, a.keepN h2 h1 h3, h3⟩
  · obtain ⟨h1, h2⟩ := R.lk q o h
    refine ⟨a.hh _ _ (fun z => h2 (hS q z).1) h1, fun z => ?_⟩
    cases e : F q with
    | none => exact h2 e
    | some o => rw [a.ff _ _ e] at z; cases z
theorem RdR.toW (R : Rs c F σ H ρ) (hI : ∀ i q, Ft σ H' ρ1 i q → CeW H' x w q → Ft σ H ρ i q ∨ False) (r : RdR c.K c.mg F' H H' x w) : RdW c F' σ H' ρ1 x w := by
  have no : ∀ q, CeW H' x w q → H q = none → ∀ i, ¬ Ft σ H' ρ1 i q := fun q hc nh i hf => by
    rcases hI i q hf hc with z | z
    · exact R.notOwn nh i z
    · exact z
  cases w with
  | t d => exact r
  | o i => exact r.elim
  | f ds => obtain ⟨q, vs, e, n, nh, h, r⟩ := r; exact ⟨q, vs, e, n, R.none0 nh, h, r, no q e nh⟩
  | g b es => obtain ⟨q, e, n, nh, dc⟩ := r; exact ⟨q, e, n, R.none0 nh, dc, no q e nh⟩
  | u t => obtain ⟨ow, n⟩ := r; exact ⟨ow, fun q hq => ⟨(n q hq).1, R.none0 (n q hq).2, no q hq (n q hq).2⟩⟩
theorem RdR.toW0 (R : Rs c F σ H ρ) (a : Adv F H F' H') (r : RdR c.K c.mg F' H H' x w) : RdW c F' σ H' ρ x w :=
  r.toW R fun i q h _ => .inl ((R.ftA a.hh).1 h)
end
theorem lift_call {n : Nat} {m : List D → Fr} (σ : L2.St) (H : Hp) (Q : VK) (h : liftE c wx (E.call n m mas) σ H Q) : tCallE (spP c.K c.mg n m) wx (liftA c wx mas) σ H Q := by
  obtain ⟨F, ρ, R, p⟩ := h
  refine liftA_fz ⟨F, ρ, R, p, fun ds ρ2 xs F2 H2 s2 R2 r2 p => ?_⟩
  by_cases l : ds.length = n
  · rw [if_pos l] at p
    refine ⟨by rw [r2.len]; exact l, F2, ds, R2.up, r2, ?_⟩
    dsimp only [E.frW] at p
    cases em : m ds with
    | bad => rw [em] at p; exact p.elim
    | ex cn fs io =>
      rw [em] at p
      exact fun C dd fsV F' H' hm a hd r => p C dd fsV F' H' σ hm a.ff (R2.adv a) hd r
    | ok w io =>
      rw [em] at p
      intro x F' H' a r
      cases w with
      | o i => exact p.elim
      | t d => exact p x F' H' (s2.trans a.ff) (R2.adv a) r
      | f zs => exact p x F' H' (s2.trans a.ff) (R2.adv a) (r.toW0 R2 a)
      | g b es => exact p x F' H' (s2.trans a.ff) (R2.adv a) (r.toW0 R2 a)
      | u t => exact p x F' H' (s2.trans a.ff) (R2.adv a) (r.toW0 R2 a)
  · rw [if_neg l] at p; exact p.elim
theorem pd_call {n : Nat} {m : List D → Fr} (h : PE X e (tCallE (spP c.K c.mg n m) wx (liftA c wx mas))) : PE X e (liftE c wx (E.call n m mas)) := pd_of h lift_call
/-! a def called that writes to the list in slot i -/
theorem Rs.advI {F H F' H' : Hp} {σ : L2.St} {ρ : Env} {i : Nat} {o : Bool} {zs zs' : List D} {p : Addr} {vs' : List V} (R : Rs c F σ H ρ) (hi : ρ[i]? = some (.ol o zs)) (hp : σ[i]? = some (some (.ref p))) (a : AdvI (fun q => q = p) F H F' H') (h' : H' p = some (.lst vs')) (r' : RdL c.K c.mg F' vs' zs') :
    Rs c F' σ H' (ρ.set i (.ol o zs')) := by
  obtain ⟨q, vs, e, n, h, r, w⟩ := R.sl i _ hi
  rw [hp] at e; cases e
  have hS : ∀ q, q = p → F q = none ∧ (c.H0 q = none ∨ c.io q) ∧ c.P q = none := fun q z => by
    subst z
    cases o with
    | true => have w : c.rt i = some q ∧ c.IO i q ∧ c.P q = none := by simpa using w
              exact ⟨n, .inr ⟨i, w.2.1⟩, w.2.2⟩
    | false => have w : Fresh c q := by simpa using w
               exact ⟨n, .inl w.1, w.2⟩
  refine R.gen i (R.toHk.advI a hS) (by rw [List.length_set]; exact R.len) a.ff (fun j s ne hj => ?_) fun s hj => ?_
  · have hj := (set_ne ne).1 hj
    exact ⟨hj, rfl, fun q ob hq ho t nf => ⟨a.hh q ob (fun z => ne (R.dj j i q ⟨s, hj, hq⟩ ⟨_, hi, by subst z; exact hp⟩)) ho, a.keepN nf ho t⟩⟩
  · obtain ⟨rfl, _⟩ := set_at hj
    refine ⟨⟨p, vs', hp, a.keepN n h trivial, h', r', w⟩, fun q hq j ne hf => ne (R.dj j i q hf ⟨_, hi, hq⟩)⟩
theorem Rs.ftI {F H F' H' : Hp} {σ : L2.St} {ρ : Env} {i j : Nat} {o : Bool} {zs zs' : List D} {p q : Addr} (R : Rs c F σ H ρ) (hi : ρ[i]? = some (.ol o zs)) (hp : σ[i]? = some (some (.ref p))) (a : AdvI (fun q => q = p) F H F' H') (h : Ft σ H' (ρ.set i (.ol o zs')) j q) : Ft σ H ρ j q := by
  obtain ⟨s, e, h⟩ := h
  by_cases ji : j = i
  · subst ji
    obtain ⟨rfl, _⟩ := set_at e
    exact ⟨_, hi, h⟩
  · have e := (set_ne ji).1 e
    refine ⟨s, e, (((R.sl j s e).keep (σ' := σ) a.ff rfl fun q ob hq ho t nf => ⟨a.hh q ob (fun z => ji (R.dj j i q ⟨s, e, hq⟩ ⟨_, hi, by subst z; exact hp⟩)) ho, a.keepN nf ho t⟩).2 q).1 h⟩
theorem lift_callI {n i : Nat} {m : List D → List D → Fr} (σ : L2.St) (H : Hp) (Q : VK) (h : liftE c wx (E.callI n m i mas) σ H Q) : tCallE (spI c.K c.mg n m) wx (tCons (tVar i) (liftA c wx mas)) σ H Q := by
  obtain ⟨F, ρ, R, p⟩ := h
  dsimp only [E.callI] at p
  cases hi : ρ[i]? with
  | none => rw [hi] at p; exact p.elim
  | some s =>
    rw [hi] at p
    cases s with
    | ol o zs =>
      rw [if_pos (show E.isOl (some (Slot.ol o zs)) = true from rfl)] at p
      obtain ⟨q, vs, e, nq, hq, rq, w⟩ := R.sl i _ hi
      refine ⟨_, e, liftA_fz ⟨F, ρ, R, p, fun ds ρ2 xs F2 H2 s2 R2 r2 p => ?_⟩⟩
      by_cases l : ds.length = n
      · rw [if_pos l] at p
        cases hi2 : ρ2[i]? with
        | none => rw [hi2] at p; exact p.elim
        | some s2' =>
          rw [hi2] at p
          cases s2' with
          | ol o2 zs2 =>
            obtain ⟨q2, vs2, e2, nq2, hq2, rq2, w2⟩ := R2.sl i _ hi2
            rw [e] at e2; cases e2
            refine ⟨by rw [List.length_cons, r2.len]; omega, F2, q, xs, vs2, zs2, ds, rfl, R2.up, nq2, hq2, rq2, r2, ?_⟩
            dsimp only [E.caI] at p
            cases em : m zs2 ds with
            | bad => rw [em] at p; exact p.elim
            | ex cn fs io =>
              rw [em] at p
              exact fun C dd fsV F' H' ws hm a hd r hp rp => p C dd fsV F' H' σ hm a.ff (R2.advI hi2 e a hp rp) hd r
            | ok wv io =>
              rw [em] at p
              dsimp only [E.frI] at p
              intro x F' H' ws a r hp rp
              have R3 := R2.advI hi2 e a hp rp
              have tw := r.toW R2 (ρ1 := ρ2.set i (.ol o2 io)) fun j q h _ => .inl (R2.ftI hi2 e a h)
              cases wv with
              | o i => exact p.elim
              | t d => exact p x F' H' (s2.trans a.ff) R3 r
              | f zs => exact p x F' H' (s2.trans a.ff) R3 tw
              | g b es => exact p x F' H' (s2.trans a.ff) R3 tw
              | u t => exact p x F' H' (s2.trans a.ff) R3 tw
          | _ => exact p.elim
      · rw [if_neg l] at p; exact p.elim
    | _ => exact p.elim
theorem pd_callI {n i : Nat} {m : List D → List D → Fr} (h : PE X e (tCallE (spI c.K c.mg n m) wx (tCons (tVar i) (liftA c wx mas)))) : PE X e (liftE c wx (E.callI n m i mas)) := pd_of h lift_callI
end
end Dx

namespace Dx
open PySem PySem.Spec PyProof.Rows L2 Hx
/-! ## statements -/
/-- a name gets what an expression gave -/
def store : Nat → W → Env → Z Sig
  | i, .t d, ρ => .ok .nx (ρ.set i (.tr d))
  | i, .f ds, ρ => .ok .nx (ρ.set i (.ol false ds))
  | i, .g b es, ρ => .ok .nx (ρ.set i (.od b es))
  | i, .u t, ρ => .ok .nx (ρ.set i (.ob .mine t))
  | i, .o j, ρ => (fz (.o j) ρ).bind fun d ρ1 => .ok .nx (ρ1.set i (.tr d))
abbrev GM := D → Env → Option Env
abbrev GMs := List D → Env → Option Env
namespace G
@[simp] def name (i : Nat) (d : D) (ρ : Env) : Option Env := some (ρ.set i (.tr d))
def nil : GMs
  | [], ρ => some ρ
  | _ :: _, _ => none
def cons (g : GM) (gs : GMs) : GMs
  | d :: ds, ρ => (g d ρ).bind fun ρ1 => gs ds ρ1
  | [], _ => none
def tup (n : Nat) (gs : GMs) : GM
  | .tup ds, ρ => if ds.length = n then gs ds ρ else none
  | _, _ => none
end G
def foK (k : Env → Z Sig) : Sig → Env → Z Sig
  | .nx, ρ => k ρ
  | .ct, ρ => k ρ
  | .bk, ρ => .ok .nx ρ
  | .rt w, ρ => .ok (.rt w) ρ
@[simp] def forR (b : D → SM) : List D → SM
  | [], ρ => .ok .nx ρ
  | d :: ds, ρ => (b d ρ).bind fun sg ρ1 => foK (forR b ds) sg ρ1
def whR (t : TM) (b : SM) : Nat → SM
  | 0, _ => .bad
  | n + 1, ρ => (t ρ).bind fun x ρ1 => if x = true then (b ρ1).bind fun sg ρ2 => foK (whR t b n) sg ρ2
    else .ok .nx ρ1
abbrev IM := Env → Z (List D)
namespace S
@[simp] def nil (ρ : Env) : Z Sig := .ok .nx ρ
def sqR (b : SM) : Sig → Env → Z Sig
  | .nx, ρ => b ρ
  | .bk, ρ => .ok .bk ρ
  | .ct, ρ => .ok .ct ρ
  | .rt w, ρ => .ok (.rt w) ρ
@[simp] def seq (a b : SM) (ρ : Env) : Z Sig := (a ρ).bind fun sg ρ1 => sqR b sg ρ1
@[simp] def never (_ : Env) : Z Sig := .bad
@[simp] def set (i : Nat) (e : EM) (ρ : Env) : Z Sig := (e ρ).bind fun w ρ1 => store i w ρ1
def toN : Option Env → Z Sig
  | some ρ => .ok .nx ρ
  | none => .bad
@[simp] def asg (e : EM) (g : GM) (ρ : Env) : Z Sig := (e ρ).bind fun w ρ1 => (fz w ρ1).bind fun d ρ2 => toN (g d ρ2)
@[simp] def drop (e : EM) (ρ : Env) : Z Sig := (e ρ).bind fun _ ρ1 => .ok .nx ρ1
def retS : Option Slot → Nat → Env → Z Sig
  | some (.ol false ds), i, ρ => .ok (.rt (.f ds)) (ρ.set i .un)
  | some (.ol true _), _, _ => .bad
  | some (.od b es), i, ρ => .ok (.rt (.g b es)) (ρ.set i .un)
  | some (.ob .mine t), i, ρ => .ok (.rt (.u t)) (ρ.set i .un)
  | some (.ob (.io _) _), _, _ => .bad
  | some (.ob .ro _), _, _ => .bad
  | some (.xe _ _), _, _ => .bad
  | some (.tr d), _, ρ => .ok (.rt (.t d)) ρ
  | some .un, _, _ => .bad
  | none, _, _ => .bad
def retW : W → Env → Z Sig
  | .o i, ρ => retS ρ[i]? i ρ
  | .t d, ρ => .ok (.rt (.t d)) ρ
  | .f ds, ρ => .ok (.rt (.f ds)) ρ
  | .g b es, ρ => .ok (.rt (.g b es)) ρ
  | .u t, ρ => .ok (.rt (.u t)) ρ
@[simp] def ret (e : EM) (ρ : Env) : Z Sig := (e ρ).bind fun w ρ1 => retW w ρ1
@[simp] def retN (ρ : Env) : Z Sig := .ok (.rt (.t .non)) ρ
@[simp] def brk (ρ : Env) : Z Sig := .ok .bk ρ
@[simp] def cnt (ρ : Env) : Z Sig := .ok .ct ρ
@[simp] def ifs (t : TM) (a b : SM) (ρ : Env) : Z Sig := (t ρ).bind fun x ρ1 => if x = true then a ρ1 else b ρ1
def onS (b : SM) : Option Env → Z Sig
  | some ρ => b ρ
  | none => .bad
@[simp] def foB (b : SM) (g : GM) (d : D) (ρ : Env) : Z Sig := onS b (g d ρ)
@[simp] def fo (s : IM) (g : GM) (b : SM) (ρ : Env) : Z Sig := (s ρ).bind fun ds ρ1 => forR (foB b g) ds ρ1
/-- far more turns than any loop here takes -/
def FU : Nat := 1000000000000
def wh (t : TM) (b : SM) (ρ : Env) : Z Sig := whR t b FU ρ
def auR (i : Nat) (f : D → D → Option W) (d0 : D) : Option D → Env → Z Sig
  | some d1, ρ => (toW (f d0 d1) ρ).bind fun w ρ2 => store i w ρ2
  | none, _ => .bad
def auS (i : Nat) (f : D → D → Option W) (e : EM) : Option Slot → Env → Z Sig
  | some (.tr d0), ρ => (e ρ).bind fun w ρ1 => auR i f d0 (pk w.st ρ1) ρ1
  | _, _ => .bad
@[simp] def aug (i : Nat) (f : D → D → Option W) (e : EM) (ρ : Env) : Z Sig := auS i f e ρ[i]? ρ
end S
section
variable {X : Cx} {K : PySem.W.Frag} {mg : Str → Option Value} {c : Ctx K mg} {wx : WX} {st : Stmt} {sts : List Stmt} {e : Expr} {me : EM} {ma mb : SM}
theorem pd_nil (h : PSs X sts tNext) : PSs X sts (liftS c wx S.nil) := pssI h fun D σ H ⟨F, ρ, R, p⟩ => p σ F H (Same.refl F) R
theorem pd_pass (h : PS X st tNext) : PS X st (liftS c wx S.nil) := psI h fun D σ H ⟨F, ρ, R, p⟩ => p σ F H (Same.refl F) R
theorem pd_never (h : PS X st tNever) : PS X st (liftS c wx S.never) := psI h fun D σ H ⟨F, ρ, R, p⟩ => p
theorem pd_brk (h : PS X st tBreak) : PS X st (liftS c wx S.brk) := psI h fun D σ H ⟨F, ρ, R, p⟩ => p σ F H (Same.refl F) R
theorem pd_cnt (h : PS X st tCont) : PS X st (liftS c wx S.cnt) := psI h fun D σ H ⟨F, ρ, R, p⟩ => p σ F H (Same.refl F) R
theorem lift_seq (D : Ends) (σ : L2.St) (H : Hp) (h : liftS c wx (S.seq ma mb) D σ H) : tSeq (liftS c wx ma) (liftS c wx mb) D σ H := by
  obtain ⟨F, ρ, R, p⟩ := h
  refine ⟨F, ρ, R, p.bnd.im fun sg ρ1 p => ?_⟩
  cases sg with
  | nx => exact fun σ' F' H' s R' => ⟨F', ρ1, R', Pst.up s p fun sg ρ2 k => k.up s⟩
  | bk => exact p
  | ct => exact p
  | rt w => exact p
theorem pd_seq (h : PSs X sts (tSeq (liftS c wx ma) (liftS c wx mb))) : PSs X sts (liftS c wx (S.seq ma mb)) := pssI h lift_seq
theorem Rs.setTr {F H : Hp} {σ : L2.St} {ρ : Env} {i : Nat} {x : V} {d : D} (R : Rs c F σ H ρ) (r : Rd c.K c.mg F x d) : Rs c F (σ.set i (some x)) H (ρ.set i (.tr d)) := by
  refine R.gen i R.toHk (by rw [List.length_set, List.length_set]; exact R.len) (Same.refl F) (fun j s ne hj => ⟨(set_ne ne).1 hj, List.getElem?_set_ne (Ne.symm ne), fun q o _ ho _ n => ⟨ho, n⟩⟩) fun s hj => ?_
  obtain ⟨rfl, l⟩ := set_at hj
  exact ⟨⟨x, List.getElem?_set_self (by rw [R.len]; exact l), r⟩, fun q h => h.elim⟩
theorem Rs.setOwn {F H : Hp} {σ : L2.St} {ρ : Env} {i : Nat} {x : V} {s : Slot} (R : Rs c F σ H ρ) (r : i < ρ.length → RdS c F (σ.set i (some x)) H i s) (no : ∀ q, FtS (σ.set i (some x)) H i s q → ∀ j, ¬ Ft σ H ρ j q) :
    Rs c F (σ.set i (some x)) H (ρ.set i s) := by
  refine R.gen i R.toHk (by rw [List.length_set, List.length_set]; exact R.len) (Same.refl F) (fun j s ne hj => ⟨(set_ne ne).1 hj, List.getElem?_set_ne (Ne.symm ne), fun q o _ ho _ n => ⟨ho, n⟩⟩) fun s' hj => ?_
  obtain ⟨rfl, l⟩ := set_at hj
  exact ⟨r l, fun q h j _ => no q h j⟩
theorem store_ok {F F0 H : Hp} {σ : L2.St} {ρ : Env} {i : Nat} {x : V} {w : W} {K : Sig → Env → Prop} (s0 : Same F0 F) (R : Rs c F σ H ρ) (r : RdW c F σ H ρ x w) (p : Pst c wx F0 σ (store i w ρ) K) :
    ∃ ρ' F', K .nx ρ' ∧ Same F F' ∧ Rs c F' (σ.set i (some x)) H ρ' := by
  have at_ : ∀ {y : V}, (σ.set i (some x))[i]? = some (some y) → y = x := fun h => by
    have l : i < (σ.set i (some x)).length := (List.getElem?_eq_some_iff.mp h).1
    rw [List.length_set] at l
    rw [List.getElem?_set_self l] at h; cases h; rfl
  have self : i < ρ.length → (σ.set i (some x))[i]? = some (some x) := fun l => List.getElem?_set_self (by rw [R.len]; exact l)
  cases w with
  | t d => exact ⟨_, F, p, Same.refl F, R.setTr r⟩
  | f ds =>
    obtain ⟨q, vs, rfl, n, h0, h, r, no⟩ := r
    exact ⟨_, F, p, Same.refl F, R.setOwn (fun l => ⟨q, vs, self l, n, h, r, h0⟩) fun q' hq => by cases at_ hq; exact no⟩
  | g b es =>
    obtain ⟨q, rfl, n, h0, dc, no⟩ := r
    exact ⟨_, F, p, Same.refl F, R.setOwn (fun l => ⟨q, self l, n, h0, dc⟩) fun q' hq => by cases at_ hq; exact no⟩
  | u t =>
    obtain ⟨ow, n⟩ := r
    exact ⟨_, F, p, Same.refl F, R.setOwn (fun l => ⟨x, self l, ow, fun q hq => ⟨(n q hq).1, (n q hq).2.1⟩, fun _ z => nomatch z⟩) fun q hq => by
      obtain ⟨v, e, hq⟩ := hq
      cases at_ e; exact (n q hq).2.2⟩
  | o j =>
    dsimp only [store] at p
    cases e : fz (.o j) ρ with
    | bad => rw [e] at p; exact p.elim
    | ex _ _ _ => exact absurd e fz_ne
    | ok d ρ1 =>
      rw [e] at p
      obtain ⟨F1, s1, R1, r1⟩ := fz_ok R r e
      exact ⟨_, F1, p, s1, R1.setTr r1⟩
theorem lift_set {i : Nat} (D : Ends) (σ : L2.St) (H : Hp) (h : liftS c wx (S.set i me) D σ H) : tAsg (liftE c wx me) (gName i) D σ H := by
  obtain ⟨F, ρ, R, p⟩ := h
  refine ⟨F, ρ, R, p.bnd.im fun w ρ1 p x F1 H1 s1 R1 r1 => ?_⟩
  obtain ⟨ρ2, F2, k, s2, R2⟩ := store_ok s1 R1 r1 p
  exact k _ F2 H1 (s1.trans s2) R2
theorem pd_set {i : Nat} (h : PS X st (tAsg (liftE c wx me) (gName i))) : PS X st (liftS c wx (S.set i me)) := psI h lift_set
theorem lift_drop (D : Ends) (σ : L2.St) (H : Hp) (h : liftS c wx (S.drop me) D σ H) : tDrop (liftE c wx me) D σ H := by
  obtain ⟨F, ρ, R, p⟩ := h
  exact ⟨F, ρ, R, p.bnd.im fun w ρ1 p x F1 H1 s1 R1 r1 => p σ F1 H1 s1 R1⟩
theorem pd_drop (h : PS X st (tDrop (liftE c wx me))) : PS X st (liftS c wx (S.drop me)) := psI h lift_drop
theorem Rs.setUn {F H : Hp} {σ : L2.St} {ρ : Env} {i : Nat} (R : Rs c F σ H ρ) : Rs c F σ H (ρ.set i .un) := by
  refine R.gen i R.toHk (by rw [List.length_set]; exact R.len) (Same.refl F) (fun j s ne hj => ⟨(set_ne ne).1 hj, rfl, fun q o _ ho _ n => ⟨ho, n⟩⟩) fun s hj => ?_
  obtain ⟨rfl, l⟩ := set_at hj
  exact ⟨trivial, fun q h => h.elim⟩
theorem Rs.offUn {F H : Hp} {σ : L2.St} {ρ : Env} {i : Nat} {s : Slot} {q : Addr} (R : Rs c F σ H ρ) (hs : ρ[i]? = some s) (hq : FtS σ H i s q) : ∀ j, ¬ Ft σ H (ρ.set i .un) j q := fun j ⟨s', e, h⟩ => by
  by_cases ji : j = i
  · subst ji; obtain ⟨rfl, _⟩ := set_at e; exact h
  · exact ji (R.dj j i q ⟨s', (set_ne ji).1 e, h⟩ ⟨s, hs, hq⟩)
theorem lift_ret (D : Ends) (σ : L2.St) (H : Hp) (h : liftS c wx (S.ret me) D σ H) : tRet (liftE c wx me) D σ H := by
  obtain ⟨F, ρ, R, p⟩ := h
  refine ⟨F, ρ, R, p.bnd.im fun w ρ1 p x F1 H1 s1 R1 r1 => ?_⟩
  cases w with
  | t d => exact p x σ F1 H1 s1 R1 r1
  | f ds => exact p x σ F1 H1 s1 R1 r1
  | g b es => exact p x σ F1 H1 s1 R1 r1
  | u t => exact p x σ F1 H1 s1 R1 r1
  | o i =>
    have es : σ[i]? = some (some x) := r1
    dsimp only [S.retW] at p
    cases hs : ρ1[i]? with
    | none => rw [hs] at p; exact p.elim
    | some sl =>
      rw [hs] at p
      have r := R1.sl i sl hs
      cases sl with
      | un => exact p.elim
      | xe _ _ => exact p.elim
      | tr d =>
        obtain ⟨v, e, r⟩ := r
        rw [es] at e; cases e
        exact p _ σ F1 H1 s1 R1 r
      | ol o ds =>
        cases o with
        | true => exact p.elim
        | false =>
          obtain ⟨q2, vs, e, n, h, r, h0⟩ := r
          rw [es] at e; cases e
          have h0 : Fresh c q2 := h0
          exact p _ σ F1 H1 s1 R1.setUn ⟨q2, vs, rfl, n, h0, h, r, R1.offUn hs es⟩
      | od b kvs =>
        obtain ⟨q2, e, n, h0, dc⟩ := r
        rw [es] at e; cases e
        exact p _ σ F1 H1 s1 R1.setUn ⟨q2, rfl, n, h0, dc, R1.offUn hs es⟩
      | ob m t =>
        cases m with
        | io _ => exact p.elim
        | ro => exact p.elim
        | mine =>
          obtain ⟨v, e, ow, n, _⟩ := r
          rw [es] at e; cases e
          exact p _ σ F1 H1 s1 R1.setUn ⟨ow, fun q hq => ⟨(n q hq).1, (n q hq).2, R1.offUn hs ⟨x, es, hq⟩⟩⟩
theorem pd_ret (h : PS X st (tRet (liftE c wx me))) : PS X st (liftS c wx (S.ret me)) := psI h lift_ret
theorem pd_retN (h : PS X st tRetN) : PS X st (liftS c wx S.retN) := psI h fun D σ H ⟨F, ρ, R, p⟩ => p _ σ F H (Same.refl F) R .non
theorem lift_ifs {t : TM} (D : Ends) (σ : L2.St) (H : Hp) (h : liftS c wx (S.ifs t ma mb) D σ H) : tIfS (liftT c wx t) (liftS c wx ma) (liftS c wx mb) D σ H := by
  obtain ⟨F, ρ, R, p⟩ := h
  refine ⟨F, ρ, R, p.bnd.im fun b ρ1 p F1 H1 s1 R1 => ?_⟩
  cases b with
  | true => exact iteT ⟨F1, ρ1, R1, Pst.up s1 p fun sg ρ2 k => k.up s1⟩
  | false => exact iteF ⟨F1, ρ1, R1, Pst.up s1 p fun sg ρ2 k => k.up s1⟩
theorem pd_ifs {t : TM} (h : PS X st (tIfS (liftT c wx t) (liftS c wx ma) (liftS c wx mb))) : PS X st (liftS c wx (S.ifs t ma mb)) := psI h lift_ifs
/-! targets: ns are the names that get a value -/
def liftG {K : PySem.W.Frag} {mg : Str → Option Value} (c : Ctx K mg) (ns : List Nat) (g : GM) : TG := fun v σ H Q => ∃ F ρ d, Rs c F σ H ρ ∧ Rd c.K c.mg F v d ∧ match g d ρ with
  | some ρ' => ∀ σ' F' H', Same F F' → Rs c F' σ' H' ρ' → (∀ i, i ∉ ns → σ'[i]? = σ[i]?) → σ'.length = σ.length → Q σ' H'
  | none => False
def liftGs {K : PySem.W.Frag} {mg : Str → Option Value} (c : Ctx K mg) (ns : List Nat) (g : GMs) : TGs := fun vs σ H Q => ∃ F ρ ds, Rs c F σ H ρ ∧ RdL c.K c.mg F vs ds ∧ match g ds ρ with
  | some ρ' => ∀ σ' F' H', Same F F' → Rs c F' σ' H' ρ' → (∀ i, i ∉ ns → σ'[i]? = σ[i]?) → σ'.length = σ.length → Q σ' H'
  | none => False
theorem pd_gname {i : Nat} (h : PG X e (gName i)) : PG X e (liftG c [i] (G.name i)) := pgI h fun v σ H Q ⟨F, ρ, d, R, r, p⟩ =>
  p _ _ _ (Same.refl F) (R.setTr r) (fun j hj => List.getElem?_set_ne (fun z => hj (by rw [z]; exact List.mem_singleton.mpr rfl))) (List.length_set ..)
theorem pd_gnil {es : List Expr} (h : PGs X es gNil) : PGs X es (liftGs c [] G.nil) := pgsI h fun vs σ H Q ⟨F, ρ, ds, R, r, p⟩ => by
  cases r with
  | nil => exact ⟨rfl, p σ F H (Same.refl F) R (fun _ _ => rfl) rfl⟩
  | cons _ _ => exact p.elim
theorem pd_gcons {es : List Expr} {n1 n2 : List Nat} {g : GM} {gs : GMs} (h : PGs X es (gCons (liftG c n1 g) (liftGs c n2 gs))) : PGs X es (liftGs c (n1 ++ n2) (G.cons g gs)) := pgsI h fun vs σ H Q ⟨F, ρ, ds, R, r, p⟩ => by
  cases r with
  | nil => exact p.elim
  | @cons v vs d ds r rr =>
    refine ⟨v, vs, rfl, F, ρ, d, R, r, ?_⟩
    dsimp only [G.cons] at p
    cases e1 : g d ρ with
    | none => rw [e1] at p; exact p.elim
    | some ρ1 =>
      rw [e1] at p
      dsimp only [Option.bind] at p
      refine fun σ1 F1 H1 s1 R1 a1 l1 => ⟨F1, ρ1, ds, R1, rr.up s1, ?_⟩
      cases e2 : gs ds ρ1 with
      | none => rw [e2] at p; exact p.elim
      | some ρ2 =>
        rw [e2] at p
        exact fun σ2 F2 H2 s2 R2 a2 l2 => p σ2 F2 H2 (s1.trans s2) R2 (fun i hi => (a2 i fun z => hi (List.mem_append_right _ z)).trans (a1 i fun z => hi (List.mem_append_left _ z))) (l2.trans l1)
theorem pd_gtup {ns : List Nat} {n : Nat} {gs : GMs} (h : PG X e (gTup c.K n (liftGs c ns gs))) : PG X e (liftG c ns (G.tup n gs)) := pgI h fun v σ H Q ⟨F, ρ, d, R, r, p⟩ => by
  cases d with
  | tup ds =>
    dsimp only [G.tup] at p
    by_cases l : ds.length = n
    · rw [if_pos l] at p
      obtain ⟨a, vs, rfl, hs, rl⟩ := r.inv_tup
      exact ⟨a, vs, rfl, st_of (R.up.tup hs), by rw [rl.len]; exact l, F, ρ, ds, R, rl, p⟩
    · rw [if_neg l] at p; exact p.elim
  | _ => exact p.elim
theorem lift_asg {ns : List Nat} {g : GM} (D : Ends) (σ : L2.St) (H : Hp) (h : liftS c wx (S.asg me g) D σ H) : tAsg (liftE c wx me) (liftG c ns g) D σ H := by
  obtain ⟨F, ρ, R, p⟩ := h
  refine ⟨F, ρ, R, p.bnd.im fun w ρ1 p x F1 H1 s1 R1 r1 => ?_⟩
  cases e : fz w ρ1 with
  | bad => rw [e] at p; exact p.elim
  | ex _ _ _ => exact absurd e fz_ne
  | ok d ρ2 =>
    rw [e] at p
    obtain ⟨F2, s2, R2, r2⟩ := fz_ok R1 r1 e
    refine ⟨F2, ρ2, d, R2, r2, ?_⟩
    dsimp only [Z.bind] at p
    cases e3 : g d ρ2 with
    | none => rw [e3] at p; exact p.elim
    | some ρ3 => rw [e3] at p; exact fun σ' F' H' s' R' _ _ => p σ' F' H' ((s1.trans s2).trans s') R'
theorem pd_asg {ns : List Nat} {g : GM} (h : PS X st (tAsg (liftE c wx me) (liftG c ns g))) : PS X st (liftS c wx (S.asg me g)) := psI h lift_asg
/-! what is walked -/
def Steps {K : PySem.W.Frag} {mg : Str → Option Value} (c : Ctx K mg) (J : It) (ds : List D) (F0 : Hp) : Prop := ∀ (P : Hp) i F H, Same F0 F → Hk (K := K) (mg := mg) { c with P := P } F H → (i < ds.length → J.go i H ∧ ∀ x H', J.yld i H x H' → ∃ F', Adv F H F' H' ∧ ∀ d, ds[i]? = some d → Rd c.K c.mg F' x d) ∧ (i = ds.length → J.stop i H)
def liftI {K : PySem.W.Frag} {mg : Str → Option Value} (c : Ctx K mg) (wx : WX) (s : IM) : TI := fun σ H R => ∃ F ρ, Rs c F σ H ρ ∧ Pst c wx F σ (s ρ) fun ds ρ' => ∀ J F' H', Same F F' → Rs c F' σ H' ρ' → Steps c J ds F' → R J H'
theorem lift_fo {ns : List Nat} {s : IM} {g : GM} {b : SM} (Y : Ends) (σ : L2.St) (H : Hp) (h : liftS c wx (S.fo s g b) Y σ H) : tFor (liftI c wx s) (liftG c ns g) (liftS c wx b) Y σ H := by
  obtain ⟨F, ρ, R, p⟩ := h
  refine ⟨F, ρ, R, p.bnd.im fun ds ρ1 p J F1 H1 s1 R1 st => ?_⟩
  generalize hB : S.foB b g = B at p
  refine ⟨fun i m σ' H' => m = ds.length - i ∧ i ≤ ds.length ∧ ∃ F' ρ', Same F1 F' ∧ Rs c F' σ' H' ρ' ∧ Pst c wx F' σ' (forR B (ds.drop i) ρ') fun sg ρ2 => SgP c F' ρ2 Y sg, ⟨ds.length, by simp, Nat.zero_le _, F1, ρ1, Same.refl F1, R1, Pst.up s1 p fun sg ρ2 k => k.up s1⟩, ?_⟩
  rintro i m σ' H' ⟨rfl, hi, F', ρ', s', R', p'⟩
  obtain ⟨go, stop⟩ := st c.P i F' H' s' R'.toHk
  by_cases hl : i < ds.length
  · obtain ⟨g1, g2⟩ := go hl
    have ed : ds[i]? = some ds[i] := List.getElem?_eq_getElem hl
    rw [List.drop_eq_getElem_cons hl] at p'
    generalize ds[i] = d at ed p'
    refine .inr ⟨g1, fun σ2 H2 => ∃ F2 ρ2, Same F1 F2 ∧ Rs c F2 σ2 H2 ρ2 ∧ Pst c wx F2 σ2 (forR B (ds.drop (i + 1)) ρ2) fun sg ρ3 => SgP c F2 ρ3 Y sg,
      fun σ2 H2 ⟨F2, ρ2, a, b, c⟩ => ⟨ds.length - (i + 1), by omega, rfl, hl, F2, ρ2, a, b, c⟩, fun x H2 y => ?_⟩
    obtain ⟨F2, a, rd⟩ := g2 x H2 y
    refine ⟨F2, ρ', d, R'.adv a, rd d ed, ?_⟩
    dsimp only [forR] at p'
    rw [← hB] at p'
    have p' := Pst.bnd p'
    dsimp only [S.foB] at p'
    cases eg : g d ρ' with
    | none => rw [eg] at p'; exact p'.elim
    | some ρ2 =>
      rw [eg] at p'
      refine fun σ3 F3 H3 s3 R3 _ _ => ⟨F3, ρ2, R3, Pst.up (a.ff.trans s3) p' fun sg ρ4 k => ?_⟩
      replace a := a.ff.trans s3
      rw [hB] at k
      cases sg with
      | nx => exact fun σ5 F5 H5 s5 R5 => ⟨F5, ρ4, (s'.trans a).trans s5, R5, Pst.up (a.trans s5) k fun sg ρ6 k => k.up (a.trans s5)⟩
      | ct => exact fun σ5 F5 H5 s5 R5 => ⟨F5, ρ4, (s'.trans a).trans s5, R5, Pst.up (a.trans s5) k fun sg ρ6 k => k.up (a.trans s5)⟩
      | bk => exact fun σ5 F5 H5 s5 R5 => k σ5 F5 H5 (a.trans s5) R5
      | rt w => exact fun x σ5 F5 H5 s5 R5 r => k x σ5 F5 H5 (a.trans s5) R5 r
  · have e : i = ds.length := by omega
    subst e
    rw [List.drop_length] at p'
    exact .inl ⟨stop rfl, p' σ' F' H' (Same.refl _) R'⟩
theorem pd_fo {ns : List Nat} {s : IM} {g : GM} {b : SM} (h : PS X st (tFor (liftI c wx s) (liftG c ns g) (liftS c wx b))) : PS X st (liftS c wx (S.fo s g b)) := psI h lift_fo
theorem lift_wh {t : TM} {b : SM} (D : Ends) (σ : L2.St) (H : Hp) (h : liftS c wx (S.wh t b) D σ H) : tWhile (liftT c wx t) (liftS c wx b) D σ H := by
  obtain ⟨F, ρ, R, p⟩ := h
  refine ⟨fun m σ' H' => ∃ F' ρ', Rs c F' σ' H' ρ' ∧ Pst c wx F' σ' (whR t b m ρ') fun sg ρ2 => SgP c F' ρ2 D sg, ⟨S.FU, F, ρ, R, p⟩, ?_⟩
  rintro m σ' H' ⟨F', ρ', R', p'⟩
  cases m with
  | zero => exact p'.elim
  | succ n =>
    unfold whR at p'
    refine ⟨F', ρ', R', (Pst.bnd p').im fun x ρ2 p2 F2 H2 s2 R2 => ?_⟩
    cases x with
    | false => exact p2 σ' F2 H2 s2 R2
    | true =>
      refine ⟨fun σ3 H3 => ∃ F3 ρ3, Rs c F3 σ3 H3 ρ3 ∧ Pst c wx F3 σ3 (whR t b n ρ3) fun sg ρ2 => SgP c F3 ρ2 D sg, fun σ3 H3 w => ⟨n, Nat.lt_succ_self n, w⟩, F2, ρ2, R2, Pst.up s2 (Pst.bnd p2) fun sg ρ4 k => ?_⟩
      cases sg with
      | nx => exact fun σ5 F5 H5 s5 R5 => ⟨F5, ρ4, R5, Pst.up (s2.trans s5) k fun sg ρ6 k => k.up (s2.trans s5)⟩
      | ct => exact fun σ5 F5 H5 s5 R5 => ⟨F5, ρ4, R5, Pst.up (s2.trans s5) k fun sg ρ6 k => k.up (s2.trans s5)⟩
      | bk => exact fun σ5 F5 H5 s5 R5 => k σ5 F5 H5 (s2.trans s5) R5
      | rt w => exact fun x σ5 F5 H5 s5 R5 r => k x σ5 F5 H5 (s2.trans s5) R5 r
theorem pd_wh {t : TM} {b : SM} (h : PS X st (tWhile (liftT c wx t) (liftS c wx b))) : PS X st (liftS c wx (S.wh t b)) := psI h lift_wh
theorem lift_aug {i : Nat} {r : R2} {f : D → D → Option W} (hf : OpD2 c.K c.mg r f) (D : Ends) (σ : L2.St) (H : Hp) (h : liftS c wx (S.aug i f me) D σ H) : tAug i (liftE c wx me) r D σ H := by
  obtain ⟨F, ρ, R, p⟩ := h
  dsimp only [S.aug] at p
  cases hi : ρ[i]? with
  | none => rw [hi] at p; exact p.elim
  | some s =>
    rw [hi] at p
    cases s with
    | tr d0 =>
      obtain ⟨v, e, r0⟩ := R.sl i _ hi
      refine ⟨v, e, F, ρ, R, (Pst.bnd p).im fun w1 ρ1 p y F1 H1 s1 R1 r1 => ?_⟩
      obtain ⟨F1', s1', R1', r1'⟩ := r1.toSt R1
      cases e1 : pk w1.st ρ1 with
      | none => rw [e1] at p; exact p.elim
      | some d1 =>
        rw [e1] at p
        refine hf F1' H1 v y d0 d1 _ R1'.up (.inl (r0.up (s1.trans s1'))) (R1'.pk r1' (by cases w1 <;> rfl) e1) (R1'.res (wx := wx) (Pst.up (s1.trans s1') (Pst.bnd p) fun w ρ2 k x F' H' s' R' r' => ?_))
        obtain ⟨ρ3, F3, k, s3, R3⟩ := store_ok ((s1.trans s1').trans s') R' r' k
        exact k _ F3 H' (((s1.trans s1').trans s').trans s3) R3
    | _ => exact p.elim
theorem pd_aug {i : Nat} {r : R2} {f : D → D → Option W} (hf : OpD2 c.K c.mg r f) (h : PS X st (tAug i (liftE c wx me) r)) : PS X st (liftS c wx (S.aug i f me)) := psI h (lift_aug hf)
end
end Dx

namespace Dx
open PySem PySem.Spec PyProof.Rows L2 Hx
/-! ## list comprehensions -/
def noX {α : Type} : Z α → Z α
  | .ok a ρ => .ok a ρ
  | .ex _ _ _ => .bad
  | .bad => .bad
@[simp] def unE (ρ : Env) : List Nat → Env
  | [] => ρ
  | v :: vs => (unE ρ vs).set v .un
@[simp] def reE (ρ0 ρ : Env) : List Nat → Env
  | [] => ρ
  | v :: vs => (reE ρ0 ρ vs).set v ((ρ0[v]?).getD .un)
def plainS : Option Slot → Bool
  | some .un => true
  | some (.tr _) => true
  | some (.ol _ _) => false
  | some (.od _ _) => false
  | some (.ob _ _) => false
  | some (.xe _ _) => false
  | none => false
def onL (k : Env → Z (List D)) : Option Env → Z (List D)
  | some ρ => k ρ
  | none => .bad
@[simp] def lcR (vs : List Nat) (g : GM) (t : TM) (e : EM) : List D → Env → Z (List D)
  | [], ρ => .ok [] ρ
  | d :: ds, ρ => onL (fun ρ1 => (noX (t ρ1)).bind fun b ρ2 => if b = true then (noX (e ρ2)).bind fun w ρ3 => (fz w ρ3).bind fun y ρ4 => (lcR vs g t e ds (unE ρ4 vs)).bind fun ys ρ5 => .ok (y :: ys) ρ5
      else lcR vs g t e ds (unE ρ2 vs)) (g d ρ)
@[simp] def E.lc (vs : List Nat) (s : IM) (g : GM) (t : TM) (e : EM) (ρ : Env) : Z W := (s ρ).bind fun ds ρ1 => if ds.length ≤ 16000000 ∧ vs.all (fun v => plainS ρ1[v]?) = true then
    (lcR vs g t e ds (unE ρ1 vs)).bind fun ys ρ2 => .ok (.f ys) (reE ρ1 ρ2 vs)
  else .bad
def WF : WX := fun _ _ _ _ => False
section
variable {K : PySem.W.Frag} {mg : Str → Option Value}
def liftG' (K : PySem.W.Frag) (mg : Str → Option Value) (ns : List Nat) (g : GM) : TG := fun v σ H Q => ∃ c : Ctx K mg, liftG c ns g v σ H Q
def liftT' (K : PySem.W.Frag) (mg : Str → Option Value) (t : TM) : TT := fun σ H Q => ∃ c : Ctx K mg, liftT c WF t σ H Q
def liftE' (K : PySem.W.Frag) (mg : Str → Option Value) (m : EM) : TE := fun σ H Q => ∃ c : Ctx K mg, liftE c WF m σ H Q
theorem pgA {X : Cx} {e : Expr} {ns : List Nat} {g : GM} (h : ∀ c : Ctx K mg, PG X e (liftG c ns g)) : PG X e (liftG' K mg ns g) := ⟨fun pins s σ H v u Q I r ⟨c, q⟩ => (h c).run pins s σ H v u Q I r q⟩
theorem peA {X : Cx} {e : Expr} {m : EM} (h : ∀ c : Ctx K mg, PE X e (liftE c WF m)) : PE X e (liftE' K mg m) := ⟨fun pins s σ H Q I ⟨c, q⟩ => (h c).run pins s σ H Q I q⟩
theorem ptsA {X : Cx} {e : Expr} {t : TM} (h : ∀ c : Ctx K mg, PT X e (liftT c WF t)) : PTs X [e] (liftT' K mg t) := pts_one ⟨fun pins s σ H Q I ⟨c, q⟩ => (h c).run pins s σ H Q I q⟩
theorem ptsN {X : Cx} : PTs X [] (liftT' K mg T.yes) := ptsI pts_nil fun σ H Q ⟨c, F, ρ, R, p⟩ => p F H (Same.refl F) R
end
section
variable {K : PySem.W.Frag} {mg : Str → Option Value} {c : Ctx K mg} {wx : WX} {F F1 H H1 : Hp} {σ σ' : L2.St} {ρ ρ1 : Env} {q p : Addr} {o : HO}
theorem unE_len : ∀ vs : List Nat, (unE ρ vs).length = ρ.length
  | [] => rfl
  | v :: vs => by rw [unE, List.length_set, unE_len vs]
theorem unE_out {i : Nat} : ∀ {vs : List Nat}, i ∉ vs → (unE ρ vs)[i]? = ρ[i]?
  | [], _ => rfl
  | v :: vs, h => by
    rw [unE, List.getElem?_set_ne (fun z => h (by rw [z]; exact List.mem_cons_self)), unE_out fun z => h (List.mem_cons_of_mem _ z)]
theorem unE_in {i : Nat} {s : Slot} : ∀ {vs : List Nat}, i ∈ vs → (unE ρ vs)[i]? = some s → s = .un
  | v :: vs, h, e => by
    rw [unE] at e
    by_cases z : v = i
    · subst z
      rw [List.getElem?_set] at e
      simp at e
      exact e.2.symm
    · rw [List.getElem?_set_ne z] at e
      exact unE_in ((List.mem_cons.mp h).resolve_left (fun k => z k.symm)) e
theorem Rs.unAt {vs : List Nat} (R : Rs c F σ H ρ) (a : ∀ i, i ∉ vs → σ'[i]? = σ[i]?) (l : σ'.length = σ.length) : Rs c F σ' H (unE ρ vs) := by
  have kp : ∀ j s, (unE ρ vs)[j]? = some s → s = Slot.un ∨ (ρ[j]? = some s ∧ σ'[j]? = σ[j]?) := fun j s hs => by
    by_cases m : j ∈ vs
    · exact .inl (unE_in m hs)
    · rw [unE_out m] at hs; exact .inr ⟨hs, a j m⟩
  have back : ∀ j q, Ft σ' H (unE ρ vs) j q → Ft σ H ρ j q := fun j q ⟨s, e, h⟩ => by
    rcases kp j s e with z | ⟨e1, sg⟩
    · subst z; exact h.elim
    · exact ⟨s, e1, (((R.sl j s e1).keep (Same.refl F) sg fun q o _ ho _ n => ⟨ho, n⟩).2 q).1 h⟩
  refine ⟨R.toHk, by rw [unE_len, l]; exact R.len, fun i s hs => ?_, fun i j q hi hj => R.dj i j q (back i q hi) (back j q hj)⟩
  rcases kp i s hs with z | ⟨e1, sg⟩
  · subst z; trivial
  · exact ((R.sl i s e1).keep (Same.refl F) sg fun q o _ ho _ n => ⟨ho, n⟩).1
theorem Ft_unE {vs : List Nat} {i : Nat} (a : ∀ i, i ∉ vs → σ'[i]? = σ[i]?) (R : Rs c F σ H ρ) (h : Ft σ' H (unE ρ vs) i q) : Ft σ H ρ i q := by
  obtain ⟨s, e, h⟩ := h
  by_cases m : i ∈ vs
  · cases unE_in m e; exact h.elim
  · rw [unE_out m] at e; exact ⟨s, e, (((R.sl i s e).keep (Same.refl F) (a i m) fun q o _ ho _ n => ⟨ho, n⟩).2 q).1 h⟩
theorem reE_len {ρ0 : Env} : ∀ vs : List Nat, (reE ρ0 ρ vs).length = ρ.length
  | [] => rfl
  | v :: vs => by rw [reE, List.length_set, reE_len vs]
theorem reE_out {ρ0 : Env} {i : Nat} : ∀ {vs : List Nat}, i ∉ vs → (reE ρ0 ρ vs)[i]? = ρ[i]?
  | [], _ => rfl
  | v :: vs, h => by
    rw [reE, List.getElem?_set_ne (fun z => h (by rw [z]; exact List.mem_cons_self)), reE_out fun z => h (List.mem_cons_of_mem _ z)]
theorem reE_in {ρ0 : Env} {i : Nat} {s : Slot} : ∀ {vs : List Nat}, i ∈ vs → (reE ρ0 ρ vs)[i]? = some s → s = (ρ0[i]?).getD .un
  | v :: vs, h, e => by
    rw [reE] at e
    by_cases z : v = i
    · subst z
      rw [List.getElem?_set] at e
      simp at e
      exact e.2.symm
    · rw [List.getElem?_set_ne z] at e
      exact reE_in ((List.mem_cons.mp h).resolve_left (fun k => z k.symm)) e
theorem reE_plain {ρ0 : Env} {vs : List Nat} {i : Nat} {s : Slot} (pl : vs.all (fun v => plainS ρ0[v]?) = true) (m : i ∈ vs) (hs : (reE ρ0 ρ vs)[i]? = some s) : s = .un ∨ ∃ d, s = .tr d ∧ ρ0[i]? = some (.tr d) := by
  have e := reE_in m hs
  have z := List.all_eq_true.mp pl i m
  cases q : ρ0[i]? with
  | none => rw [q] at e; simp at e; exact .inl e
  | some s0 =>
    rw [q] at e z
    simp at e
    subst e
    cases s with
    | un => exact .inl rfl
    | tr d => exact .inr ⟨d, rfl, rfl⟩
    | _ => simp [plainS] at z
theorem Rs.reAt {vs : List Nat} {H0 : Hp} {ρ0 : Env} (R : Rs c F σ' H ρ) (R0 : Rs c F1 σ H0 ρ0) (s : Same F1 F) (pl : vs.all (fun v => plainS ρ0[v]?) = true) (a : ∀ i, i ∉ vs → σ'[i]? = σ[i]?) (l : σ'.length = σ.length) : Rs c F σ H (reE ρ0 ρ vs) ∧ ∀ i q, Ft σ H (reE ρ0 ρ vs) i q → i ∉ vs ∧ Ft σ' H ρ i q := by
  have back : ∀ j q, Ft σ H (reE ρ0 ρ vs) j q → j ∉ vs ∧ Ft σ' H ρ j q := fun j q ⟨s', e, h⟩ => by
    by_cases m : j ∈ vs
    · rcases reE_plain pl m e with z | ⟨d, z, _⟩ <;> (subst z; exact h.elim)
    · rw [reE_out m] at e
      exact ⟨m, s', e, (((R.sl j s' e).keep (Same.refl F) (a j m).symm fun q o _ ho _ n => ⟨ho, n⟩).2 q).1 h⟩
  refine ⟨⟨R.toHk, by rw [reE_len, ← l]; exact R.len, fun i sl hs => ?_, fun i j q hi hj => R.dj i j q (back i q hi).2 (back j q hj).2⟩, back⟩
  by_cases m : i ∈ vs
  · rcases reE_plain pl m hs with z | ⟨d, z, e0⟩
    · subst z; trivial
    · subst z
      obtain ⟨v, e, r⟩ := R0.sl i _ e0
      exact ⟨v, e, r.up s⟩
  · rw [reE_out m] at hs
    exact ((R.sl i sl hs).keep (Same.refl F) (a i m).symm fun q o _ ho _ n => ⟨ho, n⟩).1
/-- the context that keeps q as it is -/
abbrev Ctx.keep (c : Ctx K mg) (q : Addr) (o : HO) : Ctx K mg := { c with P := upd c.P q o }
theorem Cell.keep {i : Nat} {m : Md} {b : Addr} (ne : b ≠ q) : Cell (c.keep q o) i m b ↔ Cell c i m b := by
  have e : upd c.P q o b = c.P b := upd_ne ne
  cases m <;> simp only [Cell, Fresh, Ctx.keep, e]
theorem Fresh.keep {b : Addr} (ne : b ≠ q) : Fresh (c.keep q o) b ↔ Fresh c b := Cell.keep (i := 0) (m := .mine) ne
/-- a slot away from q -/
theorem RdS.keepQ {i : Nat} {s : Slot} (ne : ¬ FtS σ H i s q) : RdS (c.keep q o) F σ H i s ↔ RdS c F σ H i s := by
  cases s with
  | un => exact Iff.rfl
  | tr d => exact Iff.rfl
  | xe _ _ => exact Iff.rfl
  | ol b ds =>
    refine exists_congr fun p => exists_congr fun vs => and_congr_right fun e => and_congr_right fun _ => and_congr_right fun _ => and_congr_right fun _ => ?_
    have np : p ≠ q := fun z => ne (by subst z; exact e)
    have ep : upd c.P q o p = c.P p := upd_ne np
    cases b with
    | true => simp only [if_true, Ctx.keep, ep]
    | false => simp only [Bool.false_eq_true, if_false]; exact Fresh.keep np
  | od b es =>
    refine exists_congr fun p => and_congr_right fun e => and_congr_right fun _ => and_congr_left fun _ => ?_
    exact Fresh.keep fun z => ne (by subst z; exact e)
  | ob m t =>
    refine exists_congr fun v => and_congr_right fun e => and_congr_right fun _ => and_congr_left fun _ => ?_
    exact forall_congr' fun b => imp_congr_right fun hb => and_congr_right fun _ => Cell.keep fun z => ne ⟨v, e, by subst z; exact hb⟩
theorem Rs.keep (R : Rs c F σ H ρ) (h : H q = some o) (t : notTup o) (n : F q = none) (no : ∀ i, ¬ Ft σ H ρ i q) : Rs (c.keep q o) F σ H ρ := by
  refine ⟨⟨R.up, R.up0, R.fr, R.nw, R.ioH, R.io0, fun b ob hb => ?_, R.lk, R.st⟩, R.len, fun i s hs => (RdS.keepQ fun z => no i ⟨s, hs, z⟩).2 (R.sl i s hs), R.dj⟩
  by_cases e : b = q
  · subst e
    have hb : upd c.P b o b = some ob := hb
    rw [upd_same] at hb; cases hb
    exact ⟨h, n, t⟩
  · have hb : upd c.P q o b = some ob := hb
    rw [upd_ne e] at hb
    exact R.pr b ob hb
theorem RdS.offP {i : Nat} {s : Slot} (r : RdS c F σ H i s) (h : FtS σ H i s q) : c.P q = none := by
  cases s with
  | un => exact h.elim
  | tr d => exact h.elim
  | xe _ _ => exact h.elim
  | ol b ds =>
    obtain ⟨p, vs, e, n, h2, r, w⟩ := r
    have h : σ[i]? = some (some (.ref q)) := h
    rw [e] at h; cases h
    cases b with
    | true => have w : c.rt i = some q ∧ c.IO i q ∧ c.P q = none := by simpa using w
              exact w.2.2
    | false => have w : Fresh c q := by simpa using w
               exact w.2
  | od b es => obtain ⟨p, e, n, f, _⟩ := r; have h : σ[i]? = some (some (.ref q)) := h; rw [e] at h; cases h; exact f.2
  | ob m t =>
    obtain ⟨v, e, ow, n, _⟩ := r
    obtain ⟨v2, e2, h⟩ := h
    rw [e] at e2; cases e2
    have z := (n q h).2
    cases m with
    | mine => exact z.2
    | io _ => exact z.2
    | ro => exact z
theorem Rs.unkeep (R : Rs (c.keep q o) F σ H ρ) (nP : c.P q = none) : Rs c F σ H ρ ∧ H q = some o ∧ F q = none ∧ ∀ i, ¬ Ft σ H ρ i q := by
  obtain ⟨hq, nq, _⟩ := R.pr q o upd_same
  have no : ∀ i, ¬ Ft σ H ρ i q := fun i ⟨s, e, h⟩ => by
    have z : upd c.P q o q = none := (R.sl i s e).offP h
    rw [upd_same] at z; cases z
  refine ⟨⟨⟨R.up, R.up0, R.fr, R.nw, R.ioH, R.io0, fun b ob hb => R.pr b ob (show upd c.P q o b = some ob by rw [upd_ne (fun z => by rw [z, nP] at hb; cases hb)]; exact hb), R.lk, R.st⟩, R.len, fun i s hs => (RdS.keepQ fun z => no i ⟨s, hs, z⟩).1 (R.sl i s hs), R.dj⟩, hq, nq, no⟩
/-- an object that nobody tells of changes -/
theorem Rs.touch {o o' : HO} (R : Rs c F σ H ρ) (h : H q = some o) (ni : ∀ C dx fs, o ≠ .ins C dx fs) (n : F q = none) (f : Fresh c q) (no : ∀ i, ¬ Ft σ H ρ i q) : Rs c F σ (upd H q o') ρ := by
  have k : ∀ {b ob}, b ≠ q → H b = some ob → upd H q o' b = some ob := fun {b ob} e h => by rw [upd_ne e]; exact h
  refine R.gen0 ⟨fun b ob h => ?_, R.up0, fun b ob h e l => k (fun z => by rw [z, f.1] at h; cases h) (R.fr b ob h e l), R.nw, fun b e => ?_, R.io0, fun b ob h => ?_, fun b ob h => ?_, R.st.trans (.upd h ni)⟩ (Same.refl F) fun j b ob hb ho t nf => ⟨k (fun z => no j (by subst z; exact hb)) ho, nf⟩
  · have ne : b ≠ q := fun z => by rw [z, n] at h; cases h
    rcases R.up _ _ h with y | ⟨d, od, y⟩
    · exact .inl (k ne y)
    · exact .inr ⟨d, od, k ne y⟩
  · obtain ⟨ob, hb, t⟩ := R.ioH b e
    exact ⟨ob, k (fun z => by subst z; obtain ⟨_, h0, _⟩ := R.io0 b e; rw [f.1] at h0; cases h0) hb, t⟩
  · obtain ⟨h1, h2, h3⟩ := R.pr b ob h
    exact ⟨k (fun z => by rw [z, f.2] at h; cases h) h1, h2, h3⟩
  · obtain ⟨h1, h2⟩ := R.lk b ob h
    exact ⟨k (fun z => h2 (by rw [z]; exact n)) h1, h2⟩
theorem Rs.noTouch {o o' : HO} (R : Rs c F σ H ρ) (h : H q = some o) (ni : ∀ C dx fs, o ≠ .ins C dx fs) (n : F q = none) (f : Fresh c q) (no : ∀ i, ¬ Ft σ H ρ i q) : ∀ i, ¬ Ft σ (upd H q o') ρ i q := fun i ⟨s, e, z⟩ =>
  no i ⟨s, e, (((R.sl i s e).keep (σ' := σ) (Same.refl F) rfl fun b ob hb ho t nf => ⟨by rw [upd_ne (fun y => no i (by subst y; exact ⟨s, e, hb⟩))]; exact ho, nf⟩).2 q).1 z⟩
theorem wipe_eq {σ2 : L2.St} : ∀ {vs : List Nat}, σ2.length = σ.length → (∀ i, i ∉ vs → σ2[i]? = (wipe σ vs)[i]?) → wipe σ2 vs = wipe σ vs := by
  intro vs l a
  refine List.ext_getElem? fun i => ?_
  by_cases m : i ∈ vs
  · have none_in : ∀ {τ : L2.St} {ws : List Nat}, i ∈ ws → i < τ.length → (wipe τ ws)[i]? = some none := by
      intro τ ws
      induction ws with
      | nil => intro h; cases h
      | cons v ws ih =>
        intro h hl
        rw [wipe]
        by_cases z : v = i
        · subst z; rw [List.getElem?_set_self (by rw [wipe_length]; exact hl)]
        · rw [List.getElem?_set_ne z]; exact ih ((List.mem_cons.mp h).resolve_left fun k => z k.symm) hl
    by_cases hl : i < σ2.length
    · rw [none_in m hl, none_in m (by omega)]
    · rw [List.getElem?_eq_none (by rw [wipe_length]; omega), List.getElem?_eq_none (by rw [wipe_length]; omega)]
  · rw [← a i m]
    have out : ∀ {τ : L2.St} {ws : List Nat}, i ∉ ws → (wipe τ ws)[i]? = τ[i]? := by
      intro τ ws
      induction ws with
      | nil => intro _; rfl
      | cons v ws ih =>
        intro h
        rw [wipe, List.getElem?_set_ne (fun z => h (by rw [z]; exact List.mem_cons_self))]
        exact ih fun z => h (List.mem_cons_of_mem _ z)
    exact out m
theorem wipe_off {vs : List Nat} {i : Nat} (m : i ∉ vs) : (wipe σ vs)[i]? = σ[i]? := by
  induction vs with
  | nil => rfl
  | cons v ws ih => rw [wipe, List.getElem?_set_ne (fun z => m (by rw [z]; exact List.mem_cons_self))]; exact ih fun z => m (List.mem_cons_of_mem _ z)
theorem Pst.noX {α : Type} {z : Z α} {k : α → Env → Prop} {wy : WX} (h : Pst c wx F σ (noX z) k) : Pst c wy F σ z k := by
  cases z with
  | ok a ρ => exact h
  | ex _ _ _ => exact h.elim
  | bad => exact h.elim
theorem Pst.noX' {α β : Type} {z : Z α} {k : α → Env → Z β} {q : β → Env → Prop} {c' : Ctx K mg} (h : Pst c wx F σ ((Dx.noX z).bind k) q) : Pst c' WF F1 σ' z fun a ρ => Pst c wx F σ (k a ρ) q := by
  cases z with
  | ok a ρ => exact h
  | ex _ _ _ => exact h.elim
  | bad => exact h.elim
theorem lift_lc {vs ns : List Nat} {s : IM} {g : GM} {t : TM} {e : EM} (hns : ∀ i ∈ ns, i ∈ vs) (σ : L2.St) (H : Hp) (Q : VK) (h : liftE c wx (E.lc vs s g t e) σ H Q) : tLc (liftI c wx s) (liftG' K mg ns g) (liftT' K mg t) (liftE' K mg e) vs σ H Q := by
  obtain ⟨F, ρ, R, p⟩ := h
  refine ⟨F, ρ, R, p.bnd.im fun ds ρ1 p J F1 H1 s1 R1 st A nA => ?_⟩
  by_cases cond : ds.length ≤ 16000000 ∧ vs.all (fun v => plainS ρ1[v]?) = true
  rotate_left
  · rw [if_neg cond] at p; exact p.elim
  rw [if_pos cond] at p
  obtain ⟨hz, pl⟩ := cond
  have nF1 : F1 A = none := R1.up.free nA
  have fA : Fresh c A := R1.none0 nA
  have p := Pst.up s1 (Pst.bnd p) fun (a : List D) ρ2 k => (show ∀ x F' H', Same F1 F' → Rs c F' σ H' (reE ρ1 ρ2 vs) → RdW c F' σ H' (reE ρ1 ρ2 vs) x (.f a) → Q x H' from fun x F' H' s => k x F' H' (s1.trans s))
  refine ⟨fun i m H' => m = ds.length - i ∧ i ≤ ds.length ∧ ∃ F' ρ' acc dacc, Same F1 F' ∧ Rs c F' (wipe σ vs) H' ρ' ∧ F' A = none ∧ H' A = some (.lst acc) ∧ RdL K mg F' acc dacc ∧ acc.length ≤ i ∧ (∀ i, ¬ Ft (wipe σ vs) H' ρ' i A) ∧
    Pst c wx F' σ (lcR vs g t e (ds.drop i) ρ') fun ys ρ2 => ∀ x F'' H', Same F' F'' → Rs c F'' σ H' (reE ρ1 ρ2 vs) → RdW c F'' σ H' (reE ρ1 ρ2 vs) x (.f (dacc ++ ys)) → Q x H', ⟨ds.length, by simp, Nat.zero_le _, F1, unE ρ1 vs, [], [], Same.refl F1,
      (R1.alloc nA).unAt (fun i m => wipe_off m) (wipe_length σ vs), nF1, upd_same, .nil, Nat.le_refl _, fun i oi => ?_, ?_⟩, ?_⟩
  · exact R1.noNew nA i (Ft_unE (fun i m => wipe_off m) (R1.alloc nA) oi)
  · exact p.im fun ys ρ2 k x F' H' s' R' r' => k x F' H' s' R' r'
  rintro i m H' ⟨rfl, hi, F', ρ', acc, dacc, s', R', nA', hA, ra, la, no, p'⟩
  obtain ⟨go, stop⟩ := st c.P i F' H' s' R'.toHk
  by_cases hl : i < ds.length
  · obtain ⟨g1, g2⟩ := go hl
    have ed : ds[i]? = some ds[i] := List.getElem?_eq_getElem hl
    rw [List.drop_eq_getElem_cons hl] at p'
    generalize ds[i] = d at ed p'
    refine .inr ⟨g1, fun H2 => ∃ F2 ρ2 acc2 dacc2, Same F1 F2 ∧ Rs c F2 (wipe σ vs) H2 ρ2 ∧ F2 A = none ∧ H2 A = some (.lst acc2) ∧ RdL K mg F2 acc2 dacc2 ∧ acc2.length ≤ i + 1 ∧ (∀ i, ¬ Ft (wipe σ vs) H2 ρ2 i A) ∧
        Pst c wx F2 σ (lcR vs g t e (ds.drop (i + 1)) ρ2) fun ys ρ2 => ∀ x F'' H', Same F2 F'' → Rs c F'' σ H' (reE ρ1 ρ2 vs) → RdW c F'' σ H' (reE ρ1 ρ2 vs) x (.f (dacc2 ++ ys)) → Q x H',
      fun H2 w => ⟨ds.length - (i + 1), by omega, rfl, hl, w⟩, fun x H2 y => ?_⟩
    obtain ⟨F2, a, rd⟩ := g2 x H2 y
    dsimp only [lcR] at p'
    have Rk : Rs (c.keep A (.lst acc)) F2 (wipe σ vs) H2 ρ' := (R'.keep hA trivial nA' no).adv a
    refine ⟨c.keep A (.lst acc), F2, ρ', d, Rk, rd d ed, ?_⟩
    cases eg : g d ρ' with
    | none => rw [eg] at p'; exact p'.elim
    | some ρ2 =>
      rw [eg] at p'
      dsimp only [onL] at p'
      refine fun σ3 F3 H3 s3 R3 off l3 => ⟨wipe_eq (by rw [l3, wipe_length]) fun j mj => off j fun z => mj (hns j z), c.keep A (.lst acc), F3, ρ2, R3, (Pst.noX' p').im fun b ρ3 p3 F4 H4 s4 R4 => ?_⟩
      replace a := a.ff.trans s3
      have lσ : (wipe σ vs).length = σ3.length := l3.symm
      have sF : Same F1 F4 := (s'.trans a).trans s4
      have offv : ∀ j, j ∉ vs → (wipe σ vs)[j]? = σ3[j]? := fun j mj => (off j fun z => mj (hns j z)).symm
      cases b with
      | false =>
        refine iteF ?_
        obtain ⟨R5, hA5, nA5, no5⟩ := R4.unkeep fA.2
        refine ⟨F4, unE ρ3 vs, acc, dacc, sF, R5.unAt offv lσ, nA5, hA5, ra.up (a.trans s4), by omega, fun j oj => ?_, Pst.up (a.trans s4) p3 fun ys ρ6 k x F' H' s6 => k x F' H' ((a.trans s4).trans s6)⟩
        exact no5 j (Ft_unE offv R5 oj)
      | true =>
        refine iteT ⟨c.keep A (.lst acc), F4, ρ3, R4, (Pst.noX' p3).im fun w ρ4 p4 y F5 H5 s5 R5 r5 => ?_⟩
        have p4 : Pst c wx F' σ ((fz w ρ4).bind fun y ρ4 => (lcR vs g t e (ds.drop (i + 1)) (unE ρ4 vs)).bind fun ys ρ5 => .ok (y :: ys) ρ5) _ := p4
        cases ef : fz w ρ4 with
        | bad => rw [ef] at p4; exact p4.elim
        | ex _ _ _ => exact absurd ef fz_ne
        | ok dy ρ5 =>
          rw [ef] at p4
          obtain ⟨F6, s6, R6, r6⟩ := fz_ok R5 r5 ef
          obtain ⟨R7, hA7, nA7, no7⟩ := R6.unkeep fA.2
          have sF6 : Same F' F6 := ((a.trans s4).trans s5).trans s6
          refine ⟨acc, hA7, by rw [sizeLine_eq]; omega, F6, unE ρ5 vs, acc ++ [y], dacc ++ [dy], (sF.trans s5).trans s6, (R7.touch hA7 (fun _ _ _ => nofun) nA7 fA no7).unAt offv lσ, nA7, upd_same, (ra.up sF6).app (.one r6), by rw [List.length_append]; simp; omega, fun j oj => ?_, ?_⟩
          · exact R7.noTouch hA7 (fun _ _ _ => nofun) nA7 fA no7 j (Ft_unE offv (R7.touch hA7 (fun _ _ _ => nofun) nA7 fA no7) oj)
          · refine Pst.up sF6 (Pst.bnd p4) fun ys ρ6 k x F' H' s6 R' r' => ?_
            refine k x F' H' (sF6.trans s6) R' ?_
            rw [List.append_assoc] at r'
            exact r'
  · have e : i = ds.length := by omega
    subst e
    rw [List.drop_length] at p'
    obtain ⟨Rf, back⟩ := R'.reAt R1 s' pl (fun j mj => wipe_off mj) (wipe_length σ vs)
    exact .inl ⟨stop rfl, p' _ F' H' (Same.refl _) Rf ⟨A, acc, rfl, nA', fA, hA, by rw [List.append_nil]; exact ra, fun j hj => no j (back j A hj).2⟩⟩
theorem pd_lc {X : Cx} {ex : Expr} {vs ns : List Nat} {s : IM} {g : GM} {t : TM} {e : EM} (h : PE X ex (tLc (liftI c wx s) (liftG' K mg ns g) (liftT' K mg t) (liftE' K mg e) vs)) (hns : ∀ i ∈ ns, i ∈ vs := by decide) : PE X ex (liftE c wx (E.lc vs s g t e)) := pd_of h (lift_lc hns)
theorem pd_setLc {X : Cx} {st : Stmt} {i : Nat} {vs ns : List Nat} {s : IM} {g : GM} {t : TM} {e : EM} (h : PS X st (tAsg (tLc (liftI c wx s) (liftG' K mg ns g) (liftT' K mg t) (liftE' K mg e) vs) (gName i))) (hns : ∀ i ∈ ns, i ∈ vs := by decide) : PS X st (liftS c wx (S.set i (E.lc vs s g t e))) :=
  psI h fun D σ H q => lift_lc hns σ H _ (lift_set D σ H q)
end
end Dx

namespace Dx
open PySem PySem.Spec PyProof.Rows L2 Hx
/-! ## an own list changed -/
abbrev LM := List D → List D → Option (D × List D)
namespace LM
def append : LM
  | ds, [e] => if ds.length < 16000000 then some (.non, ds ++ [e]) else none
  | _, _ => none
def popO (ds : List D) : Option D → Option (D × List D)
  | some d => some (d, ds.dropLast)
  | none => none
def pop : LM
  | ds, [] => popO ds ds[ds.length - 1]?
  | _, _ :: _ => none
def popAt : LM
  | ds, [.int i] => if 0 ≤ i ∧ i < ds.length ∧ i < 2 ^ 63 then (ds[i.toNat]?).map fun d => (d, ds.eraseIdx i.toNat) else none
  | _, _ => none
def insert : LM
  | ds, [.int i, e] => if 0 ≤ i ∧ i < 2 ^ 63 ∧ ds.length < 16000000 then some (.non, ds.take i.toNat ++ [e] ++ ds.drop i.toNat) else none
  | _, _ => none
end LM
namespace E
def lmO (i : Nat) (o : Bool) : Option (D × List D) → Env → Z W
  | some (d, zs), ρ => .ok (.t d) (ρ.set i (.ol o zs))
  | none, _ => .bad
def lmR (f : LM) (ds : List D) (i : Nat) : Option Slot → Env → Z W
  | some (.ol o zs), ρ => lmO i o (f zs ds) ρ
  | _, _ => .bad
@[simp] def lm (f : LM) (i : Nat) (a : AM) (ρ : Env) : Z W := if isOl ρ[i]? = true then (a ρ).bind fun ws ρ1 => (fzs ws ρ1).bind fun ds ρ2 => lmR f ds i ρ2[i]? ρ2 else .bad
def extO (i j : Nat) (o : Bool) (zs : List D) : Option Slot → Env → Z W
  | some (.ol _ es), ρ => if j = i then .bad else if zs.length + es.length ≤ 16000000 then .ok (.t .non) (ρ.set i (.ol o (zs ++ es))) else .bad
  | _, _ => .bad
def extR (i : Nat) : Option Slot → W → Env → Z W
  | some (.ol o zs), .f es, ρ => if zs.length + es.length ≤ 16000000 then .ok (.t .non) (ρ.set i (.ol o (zs ++ es))) else .bad
  | some (.ol o zs), .o j, ρ => extO i j o zs ρ[j]? ρ
  | _, _, _ => .bad
/-- x.extend(y): y's items now -/
@[simp] def ext (i : Nat) (a : EM) (ρ : Env) : Z W := if isOl ρ[i]? = true then (a ρ).bind fun w ρ1 => extR i ρ1[i]? w ρ1 else .bad
end E
def setiR (i : Nat) (d : D) : Option D → Option Slot → Env → Z Sig
  | some (.int k), some (.ol o zs), ρ => if 0 ≤ k ∧ k < zs.length then .ok .nx (ρ.set i (.ol o (zs.set k.toNat d))) else .bad
  | _, _, _ => .bad
/-- x[k] = e -/
@[simp] def S.seti (i : Nat) (ik e : EM) (ρ : Env) : Z Sig := (e ρ).bind fun w ρ1 => (fz w ρ1).bind fun d ρ2 => if E.isOl ρ2[i]? = true then (ik ρ2).bind fun wk ρ3 => setiR i d (pk wk.st ρ3) ρ3[i]? ρ3 else .bad
def LmD (K : PySem.W.Frag) (mg : Str → Option Value) (r : V → List V → Hp → VK → Prop) (f : LM) : Prop :=
  ∀ F H p vs zs xs ds d zs' Q, F p = none → H p = some (.lst vs) → RdL K mg F vs zs → RdL K mg F xs ds → f zs ds = some (d, zs') → (∀ v vs', Rd K mg F v d → RdL K mg F vs' zs' → Q v (upd H p (.lst vs'))) → r (.ref p) xs H Q
section
variable {K : PySem.W.Frag} {mg : Str → Option Value} {c : Ctx K mg} {wx : WX} {X : Cx} {e : Expr} {st : Stmt} {mas : AM} {me mk : EM}
theorem isOl_ok {s : Option Slot} (h : E.isOl s = true) : ∃ o zs, s = some (.ol o zs) := by
  cases s with
  | none => cases h
  | some s => cases s <;> first | exact ⟨_, _, rfl⟩ | cases h
theorem AdvI.put {F H : Hp} {p : Addr} {o ob : HO} (u : Up F H) (n : F p = none) (h : H p = some ob) (ni : ∀ C dx fs, ob ≠ .ins C dx fs) (t : notTup o) : AdvI (fun q => q = p) F H F (upd H p o) :=
  ⟨Same.refl F, fun q ob ne h => by rw [upd_ne ne]; exact h, fun b ob h => by
    have ne : b ≠ p := fun z => by rw [z, n] at h; cases h
    rw [upd_ne ne]; exact u _ _ h, fun q h n => absurd n h, fun q e => ⟨o, by subst e; exact upd_same, t⟩, .upd h ni⟩
theorem AdvI.putL {F H : Hp} {p : Addr} {vs ws : List V} (u : Up F H) (n : F p = none) (h : H p = some (.lst vs)) : AdvI (fun q => q = p) F H F (upd H p (.lst ws)) := .put u n h (fun _ _ _ => nofun) trivial
theorem lift_lm {r : V → List V → Hp → VK → Prop} {f : LM} {i : Nat} (hf : LmD K mg r f) (σ : L2.St) (H : Hp) (Q : VK) (h : liftE c wx (E.lm f i mas) σ H Q) : tBM K "list" r (tVar i) (liftA c wx mas) σ H Q := by
  obtain ⟨F, ρ, R, p⟩ := h
  dsimp only [E.lm] at p
  by_cases oi : E.isOl ρ[i]? = true
  · rw [if_pos oi] at p
    obtain ⟨o, zs, hi⟩ := isOl_ok oi
    obtain ⟨q, vs, e, nq, hq, rq, w⟩ := R.sl i _ hi
    refine ⟨_, e, .inl ⟨rfl, vs, sq_of hq⟩, liftA_fz ⟨F, ρ, R, p, fun ds ρ2 xs F2 H2 s2 R2 r2 p => ?_⟩⟩
    cases hi2 : ρ2[i]? with
    | none => rw [hi2] at p; exact p.elim
    | some s2' =>
      rw [hi2] at p
      cases s2' with
      | ol o2 zs2 =>
        dsimp only [E.lmR] at p
        obtain ⟨q2, vs2, e2, nq2, hq2, rq2, w2⟩ := R2.sl i _ hi2
        rw [e] at e2; cases e2
        cases ef : f zs2 ds with
        | none => rw [ef] at p; exact p.elim
        | some pr =>
          rw [ef] at p
          obtain ⟨d, zs'⟩ := pr
          exact hf F2 H2 q vs2 zs2 xs ds d zs' Q nq2 hq2 rq2 r2 ef fun v vs' rv rvs => p v F2 _ s2 (R2.advI hi2 e (.putL R2.up nq2 hq2) upd_same rvs) rv
      | _ => exact p.elim
  · rw [if_neg oi] at p; exact p.elim
theorem pd_lm {r : V → List V → Hp → VK → Prop} {f : LM} {i : Nat} (hf : LmD K mg r f) (h : PE X e (tBM K "list" r (tVar i) (liftA c wx mas))) : PE X e (liftE c wx (E.lm f i mas)) := pd_of h (lift_lm hf)
theorem lift_lm0 {r : V → List V → Hp → VK → Prop} {f : LM} {i : Nat} (hf : LmD K mg r f) (σ : L2.St) (H : Hp) (Q : VK) (h : liftE c wx (E.lm f i A.nil) σ H Q) : tBM0 K "list" r (tVar i) σ H Q := by
  obtain ⟨x, e, t, F, ρ, R, p⟩ := lift_lm (mas := A.nil) hf σ H Q h
  exact ⟨x, e, t, p [] F H (Same.refl F) R .nil⟩
theorem pd_lm0 {r : V → List V → Hp → VK → Prop} {f : LM} {i : Nat} (hf : LmD K mg r f) (h : PE X e (tBM0 K "list" r (tVar i))) : PE X e (liftE c wx (E.lm f i A.nil)) := pd_of h (lift_lm0 hf)
theorem lm_append : LmD K mg rAppend LM.append := by
  intro F H p vs zs xs ds d zs' Q n h rz rd e q
  match ds, rd, e with
  | [d0], .cons r0 .nil, e =>
    dsimp only [LM.append] at e
    by_cases l : zs.length < 16000000
    · rw [if_pos l] at e
      cases e
      exact ⟨p, vs, _, rfl, rfl, h, by rw [rz.len, sizeLine_eq]; omega, q _ _ .non (rz.app (.one r0))⟩
    · rw [if_neg l] at e; cases e
theorem RdL.dropL {F : Hp} {vs : List V} {ds : List D} (h : RdL K mg F vs ds) : RdL K mg F vs.dropLast ds.dropLast := by
  rw [List.dropLast_eq_take, List.dropLast_eq_take, h.len]
  exact h.takeD _
theorem lm_pop : LmD K mg rPop LM.pop := by
  intro F H p vs zs xs ds d zs' Q n h rz rd e q
  cases rd with
  | cons _ _ => cases e
  | nil =>
    dsimp only [LM.pop] at e
    cases ez : zs[zs.length - 1]? with
    | none => rw [ez] at e; cases e
    | some d0 =>
      rw [ez] at e
      cases e
      obtain ⟨v, ev, rv⟩ := rz.get ez
      exact ⟨p, vs, v, rfl, rfl, h, by rw [rz.len]; exact ev, q _ _ rv rz.dropL⟩
theorem RdL.erase {F : Hp} : ∀ {vs : List V} {ds : List D} (n : Nat), RdL K mg F vs ds → RdL K mg F (vs.eraseIdx n) (ds.eraseIdx n)
  | _, _, _, .nil => .nil
  | _, _, 0, .cons _ r => r
  | _, _, n + 1, .cons h r => .cons h (RdL.erase n r)
theorem lm_popAt : LmD K mg rPopAt LM.popAt := by
  intro F H p vs zs xs ds d zs' Q n h rz rd e q
  match ds, rd, e with
  | [.int i], .cons r0 .nil, e =>
    cases r0.inv_int
    dsimp only [LM.popAt, LM.insert] at e
    by_cases l : 0 ≤ i ∧ i < zs.length ∧ i < 2 ^ 63
    · rw [if_pos l] at e
      cases ez : zs[i.toNat]? with
      | none => rw [ez] at e; cases e
      | some d0 =>
        rw [ez] at e
        cases e
        obtain ⟨v, ev, rv⟩ := rz.get ez
        refine ⟨p, vs, i, i.toNat, v, rfl, rfl, h, by omega, l.2.2, ?_, ev, q _ _ rv (rz.erase _)⟩
        have := rz.len
        unfold seqIndex?
        simp only []
        rw [if_neg (show ¬ i < 0 by omega), if_pos (by simp; omega)]
    · rw [if_neg l] at e; cases e
theorem lm_insert : LmD K mg (fun x vs H Q => ∃ (l : Addr) (xs : List V) (i : Int) (y : V), x = .ref l ∧ vs = [.int i, y] ∧ H l = some (.lst xs) ∧ xs.length < sizeLine ∧ 0 ≤ i ∧ i < 2 ^ 63 ∧ Q .non (upd H l (.lst (xs.take i.toNat ++ [y] ++ xs.drop i.toNat)))) LM.insert := by
  intro F H p vs zs xs ds d zs' Q n h rz rd e q
  match ds, rd, e with
  | [.int i, d0], .cons r0 (.cons r1 .nil), e =>
    cases r0.inv_int
    dsimp only [LM.popAt, LM.insert] at e
    by_cases l : 0 ≤ i ∧ i < 2 ^ 63 ∧ zs.length < 16000000
    · rw [if_pos l] at e
      cases e
      exact ⟨p, vs, i, _, rfl, rfl, h, by rw [rz.len, sizeLine_eq]; omega, l.1, l.2.1, q _ _ .non (((rz.takeD _).app (.one r1)).app (rz.dropD _))⟩
    · rw [if_neg l] at e; cases e
theorem lift_ext {i : Nat} (σ : L2.St) (H : Hp) (Q : VK) (h : liftE c wx (E.ext i me) σ H Q) : tBM K "list" rExtend (tVar i) (tCons (liftE c wx me) tNil) σ H Q := by
  obtain ⟨F, ρ, R, p⟩ := h
  dsimp only [E.ext] at p
  by_cases oi : E.isOl ρ[i]? = true
  · rw [if_pos oi] at p
    obtain ⟨o, zs, hi⟩ := isOl_ok oi
    obtain ⟨q, vs, e, nq, hq, rq, w⟩ := R.sl i _ hi
    refine ⟨_, e, .inl ⟨rfl, vs, sq_of hq⟩, F, ρ, R, (Pst.bnd p).im fun w1 ρ1 p x F1 H1 s1 R1 r1 => ?_⟩
    cases hi2 : ρ1[i]? with
    | none => rw [hi2] at p; exact p.elim
    | some s2' =>
      rw [hi2] at p
      cases s2' with
      | ol o2 zs2 =>
        obtain ⟨q2, vs2, e2, nq2, hq2, rq2, w2⟩ := R1.sl i _ hi2
        rw [e] at e2; cases e2
        cases w1 with
        | f es =>
          dsimp only [E.extR] at p
          by_cases l : zs2.length + es.length ≤ 16000000
          · rw [if_pos l] at p
            obtain ⟨b, ws, rfl, n, h0, hb, rb, no⟩ := r1
            refine ⟨q, b, vs2, ws, rfl, rfl, hq2, hb, by rw [rq2.len, rb.len, sizeLine_eq]; omega, ?_⟩
            exact p .non F1 _ s1 (R1.advI hi2 e (.putL R1.up nq2 hq2) upd_same (rq2.app rb)) .non
          · rw [if_neg l] at p; exact p.elim
        | o j =>
          dsimp only [E.extR] at p
          have eb : σ[j]? = some (some x) := r1
          cases hj : ρ1[j]? with
          | none => rw [hj] at p; exact p.elim
          | some s3 =>
            rw [hj] at p
            cases s3 with
            | ol o3 es =>
              dsimp only [E.extO] at p
              by_cases ji : j = i
              · rw [if_pos ji] at p; exact p.elim
              rw [if_neg ji] at p
              by_cases l : zs2.length + es.length ≤ 16000000
              · rw [if_pos l] at p
                obtain ⟨b2, ws, eb2, n, hb, rb, _⟩ := R1.sl j _ hj
                rw [eb] at eb2; cases eb2
                refine ⟨q, b2, vs2, ws, rfl, rfl, hq2, hb, by rw [rq2.len, rb.len, sizeLine_eq]; omega, ?_⟩
                exact p .non F1 _ s1 (R1.advI hi2 e (.putL R1.up nq2 hq2) upd_same (rq2.app rb)) .non
              · rw [if_neg l] at p; exact p.elim
            | _ => exact p.elim
        | _ => exact p.elim
      | _ => exact p.elim
  · rw [if_neg oi] at p; exact p.elim
theorem pd_ext {i : Nat} (h : PE X e (tBM K "list" rExtend (tVar i) (tCons (liftE c wx me) tNil))) : PE X e (liftE c wx (E.ext i me)) := pd_of h lift_ext
theorem lift_seti {i : Nat} (Y : Ends) (σ : L2.St) (H : Hp) (h : liftS c wx (S.seti i mk me) Y σ H) : tAsg (liftE c wx me) (gSub (tVar i) (liftE c wx mk) rSetL) Y σ H := by
  obtain ⟨F, ρ, R, p⟩ := h
  refine ⟨F, ρ, R, p.bnd.im fun w ρ1 p x F1 H1 s1 R1 r1 => ?_⟩
  cases e : fz w ρ1 with
  | bad => rw [e] at p; exact p.elim
  | ex _ _ _ => exact absurd e fz_ne
  | ok d ρ2 =>
    rw [e] at p
    obtain ⟨F2, s2, R2, r2⟩ := fz_ok R1 r1 e
    dsimp only [Z.bind] at p
    by_cases oi : E.isOl ρ2[i]? = true
    · rw [if_pos oi] at p
      obtain ⟨o0, zs0, hi⟩ := isOl_ok oi
      obtain ⟨q, vs, e1, nq, hq, rq, w1⟩ := R2.sl i _ hi
      refine ⟨_, e1, F2, ρ2, R2, Pst.up (s1.trans s2) (Pst.bnd p) fun wk ρ3 p y F3 H3 s3 R3 r3 => ?_⟩
      obtain ⟨F4, s4, R4, r4⟩ := r3.toSt R3
      cases ek : pk wk.st ρ3 with
      | none => rw [ek] at p; exact p.elim
      | some dk =>
        rw [ek] at p
        cases dk with
        | int k =>
          cases hi3 : ρ3[i]? with
          | none => rw [hi3] at p; exact p.elim
          | some sl3 =>
            rw [hi3] at p
            cases sl3 with
            | ol o zs =>
              dsimp only [setiR] at p
              by_cases l : 0 ≤ k ∧ k < zs.length
              · rw [if_pos l] at p
                obtain ⟨q3, vs3, e3, nq3, hq3, rq3, w3⟩ := R4.sl i _ hi3
                rw [e1] at e3; cases e3
                have ey := (R4.pk r4 (by cases wk <;> rfl) ek).int
                subst ey
                refine ⟨q, vs3, k, k.toNat, rfl, rfl, hq3, ?_, ?_⟩
                · unfold ixN; rw [if_pos (by omega), if_pos (by rw [rq3.len]; omega)]
                · have sA := ((s1.trans s2).trans s3).trans s4
                  exact p σ F4 _ sA (R4.advI hi3 e1 (.putL R4.up nq3 hq3) upd_same (rq3.setD _ (r2.up (s3.trans s4))))
              · rw [if_neg l] at p; exact p.elim
            | _ => exact p.elim
        | _ => exact p.elim
    · rw [if_neg oi] at p; exact p.elim
theorem pd_seti {i : Nat} (h : PS X st (tAsg (liftE c wx me) (gSub (tVar i) (liftE c wx mk) rSetL))) : PS X st (liftS c wx (S.seti i mk me)) := psI h lift_seti
end
/-! ## defs -/
def endP : Z Sig → Fr
  | .ok (.rt (.t d)) _ => .ok (.t d) []
  | .ok (.rt (.f ds)) _ => .ok (.f ds) []
  | .ok (.rt (.g b es)) _ => .ok (.g b es) []
  | .ok (.rt (.u t)) _ => .ok (.u t) []
  | .ok (.rt (.o _)) _ => .bad
  | .ok .nx _ => .ok (.t .non) []
  | .ok .bk _ => .bad
  | .ok .ct _ => .bad
  | .ex c fs _ => .ex c fs []
  | .bad => .bad
@[simp] def runP (k : Nat) (b : SM) : List D → Fr := fun ds => endP (b (ds.map .tr ++ List.replicate k .un))
def ioS (k : List D → Fr) : Option Slot → Fr
  | some (.ol true zs) => k zs
  | _ => .bad
@[simp] def ioOf (ρ : Env) (k : List D → Fr) : Fr := ioS k ρ[0]?
def endI : Z Sig → Fr
  | .ok (.rt (.t d)) ρ => ioOf ρ fun zs => .ok (.t d) zs
  | .ok (.rt (.f ds)) ρ => ioOf ρ fun zs => .ok (.f ds) zs
  | .ok (.rt (.g b es)) ρ => ioOf ρ fun zs => .ok (.g b es) zs
  | .ok (.rt (.u t)) ρ => ioOf ρ fun zs => .ok (.u t) zs
  | .ok (.rt (.o _)) _ => .bad
  | .ok .nx ρ => ioOf ρ fun zs => .ok (.t .non) zs
  | .ok .bk _ => .bad
  | .ok .ct _ => .bad
  | .ex c fs ρ => ioOf ρ fun zs => .ex c fs zs
  | .bad => .bad
@[simp] def runI (k : Nat) (b : SM) : List D → List D → Fr := fun io ds => endI (b (.ol true io :: (ds.map .tr ++ List.replicate k .un)))
def liftS' (K : PySem.W.Frag) (mg : Str → Option Value) (wx : WX) (b : SM) : TS := fun Y σ H => ∃ c : Ctx K mg, liftS c wx b Y σ H
section
variable {K : PySem.W.Frag} {mg : Str → Option Value}
theorem pssA {X : Cx} {ss : List Stmt} {wx : WX} {b : SM} (h : ∀ c : Ctx K mg, PSs X ss (liftS c wx b)) : PSs X ss (liftS' K mg wx b) := ⟨fun pins s σ H Y I ⟨c, q⟩ => (h c).run pins s σ H Y I q⟩
theorem start_len {N : List Str} {vs : List V} (h : vs.length ≤ N.length) : (start N vs).length = N.length := by
  unfold L2.start; rw [List.length_append, List.length_map, List.length_replicate]; omega
theorem start_at {N : List Str} {vs : List V} {i : Nat} {v : V} (h : vs[i]? = some v) : (start N vs)[i]? = some (some v) := by
  unfold L2.start
  have l : i < vs.length := (List.getElem?_eq_some_iff.mp h).1
  rw [List.getElem?_append_left (by rw [List.length_map]; exact l), List.getElem?_map, h]; rfl
theorem ep_trs {ds : List D} {k : Nat} {i : Nat} {s : Slot} (h : (ds.map Slot.tr ++ List.replicate k Slot.un)[i]? = some s) : s = .un ∨ ∃ d, ds[i]? = some d ∧ s = .tr d := by
  by_cases l : i < ds.length
  · rw [List.getElem?_append_left (by rw [List.length_map]; exact l), List.getElem?_map] at h
    cases e : ds[i]? with
    | none => rw [e] at h; cases h
    | some d => rw [e] at h; cases h; exact .inr ⟨d, rfl, rfl⟩
  · rw [List.getElem?_append_right (by rw [List.length_map]; omega)] at h
    exact .inl (List.mem_replicate.mp (List.mem_of_getElem? h)).2
theorem RdW.toR {c : Ctx K mg} {F' H' : Hp} {σ' : L2.St} {ρ' : Env} {x : V} {w : W} {H : Hp} (e : c.H0 = H) (no : ∀ i, w ≠ .o i) (r : RdW c F' σ' H' ρ' x w) : RdR K mg F' H H' x w := by
  subst e
  cases w with
  | t d => exact r
  | o i => exact absurd rfl (no i)
  | f ds => obtain ⟨q, vs, e, n, h0, h, r, _⟩ := r; exact ⟨q, vs, e, n, h0.1, h, r⟩
  | g b es => obtain ⟨q, e, n, h0, dc, _⟩ := r; exact ⟨q, e, n, h0.1, dc⟩
  | u t => obtain ⟨ow, n⟩ := r; exact ⟨ow, fun q hq => ⟨(n q hq).1, (n q hq).2.1.1⟩⟩
/-- the context at a def's entry -/
abbrev Ctx.start (F H : Hp) (IO : Nat → Addr → Prop) (rt : Nat → Option Addr) : Ctx K mg := ⟨F, H, IO, rt, fun _ => none, fun _ => none, none⟩
theorem Hk.start {F H : Hp} {IO : Nat → Addr → Prop} {rt : Nat → Option Addr} (u : Up F H) (io : ∀ q, (∃ i, IO i q) → ∃ o, H q = some o ∧ notTup o) : Hk (Ctx.start (K := K) (mg := mg) F H IO rt) F H :=
  ⟨u, Same.refl F, fun q o h _ _ => h, fun q h n => absurd n h, io, io, fun q o h => (by cases h), fun q o h => (by cases h), Stb.refl H⟩
theorem Hk.exit {F H F' H' : Hp} {IO : Nat → Addr → Prop} {rt : Nat → Option Addr} {S : Addr → Prop} (hS : ∀ q, (∃ i, IO i q) ↔ S q) (k : Hk (Ctx.start (K := K) (mg := mg) F H IO rt) F' H') : AdvI S F H F' H' :=
  ⟨k.up0, fun q o n h => k.fr q o h (fun z => n ((hS q).1 z)) rfl, k.up, k.nw, fun q h => k.ioH q ((hS q).2 h), k.st⟩
theorem Hk.exit0 {F H F' H' : Hp} {rt : Nat → Option Addr} (k : Hk (Ctx.start (K := K) (mg := mg) F H (fun _ _ => False) rt) F' H') : Adv F H F' H' :=
  ⟨k.up0, fun q o h => k.fr q o h (fun z => z.elim fun _ y => y) rfl, k.up, k.nw⟩
theorem runP_go {N : List Str} {n k : Nat} {b : SM} {vs : List V} {H : Hp} {Q : VK} {E : XK} (hN : N.length = n + k) (h : spP K mg n (runP k b) vs H Q E) :
    liftS' K mg (fun cls d _ H => E cls d H) b { nx := fun _ G => Q .non G, rt := Q } (start N vs) H := by
  obtain ⟨l, F, ds, u, r, p⟩ := h
  have ld : ds.length = n := by rw [← r.len]; exact l
  let c : Ctx K mg := .start F H (fun _ _ => False) fun _ => none
  have sl : ∀ i s, (ds.map Slot.tr ++ List.replicate k Slot.un)[i]? = some s → s = Slot.un ∨ ∃ d v, s = Slot.tr d ∧ (start N vs)[i]? = some (some v) ∧ Rd K mg F v d := fun i s hs => by
    rcases ep_trs hs with e | ⟨d, ed, e⟩
    · exact .inl e
    · obtain ⟨v, ev, rv⟩ := r.get ed
      exact .inr ⟨d, v, e, start_at ev, rv⟩
  have no : ∀ i q, ¬ Ft (start N vs) H (ds.map Slot.tr ++ List.replicate k Slot.un) i q := fun i q ⟨s, e, h⟩ => by
    rcases sl i s e with z | ⟨d, v, z, _⟩ <;> (subst z; exact h)
  have R : Rs c F (start N vs) H (ds.map Slot.tr ++ List.replicate k Slot.un) := by
    refine ⟨.start u fun q h => h.elim fun _ y => y.elim, by rw [start_len (by omega), List.length_append, List.length_map, List.length_replicate]; omega, fun i s hs => ?_, fun i j q h => absurd h (no i q)⟩
    rcases sl i s hs with z | ⟨d, v, z, e, rv⟩
    · subst z; trivial
    · subst z; exact ⟨v, e, rv⟩
  refine ⟨c, F, _, R, ?_⟩
  dsimp only [runP] at p
  cases e : b (ds.map Slot.tr ++ List.replicate k Slot.un) with
  | bad => rw [e] at p; exact p.elim
  | ex cn fs ρ' =>
    rw [e] at p
    exact fun C dd fsV F' H' σ' m s R' hd rf => p C dd fsV F' H' m R'.toHk.exit0 hd rf
  | ok sg ρ' =>
    rw [e] at p
    cases sg with
    | nx => exact fun σ' F' H' s R' => p .non F' H' R'.toHk.exit0 .non
    | bk => exact p.elim
    | ct => exact p.elim
    | rt w =>
      intro x σ' F' H' s R' r'
      cases w with
      | o i => exact p.elim
      | t d => exact p x F' H' R'.toHk.exit0 (r'.toR rfl (fun _ => nofun))
      | f zs => exact p x F' H' R'.toHk.exit0 (r'.toR rfl (fun _ => nofun))
      | g b es => exact p x F' H' R'.toHk.exit0 (r'.toR rfl (fun _ => nofun))
      | u t => exact p x F' H' R'.toHk.exit0 (r'.toR rfl (fun _ => nofun))
theorem runI_go {N : List Str} {n k : Nat} {b : SM} {vs : List V} {H : Hp} {Q : VK} {E : XK} (hN : N.length = n + 1 + k) (h : spI K mg n (runI k b) vs H Q E) :
    liftS' K mg (fun cls d _ H => E cls d H) b { nx := fun _ G => Q .non G, rt := Q } (start N vs) H := by
  obtain ⟨l, F, p, us, ios, zs, ds, rfl, u, nF, hp, rz, r, pp⟩ := h
  have ld : ds.length = n := by rw [← r.len]; simpa using l
  let c : Ctx K mg := .start F H (fun _ q => q = p) fun _ => some p
  have at0 : (start N (V.ref p :: us))[0]? = some (some (.ref p)) := start_at rfl
  have sl : ∀ i s, (Slot.ol true zs :: (ds.map Slot.tr ++ List.replicate k Slot.un))[i]? = some s → (i = 0 ∧ s = Slot.ol true zs) ∨ s = Slot.un ∨ ∃ d v, s = Slot.tr d ∧ (start N (V.ref p :: us))[i]? = some (some v) ∧ Rd K mg F v d := fun i s hs => by
    cases i with
    | zero => cases hs; exact .inl ⟨rfl, rfl⟩
    | succ i =>
      rcases ep_trs hs with e | ⟨d, ed, e⟩
      · exact .inr (.inl e)
      · obtain ⟨v, ev, rv⟩ := r.get ed
        exact .inr (.inr ⟨d, v, e, start_at (show (V.ref p :: us)[i + 1]? = some v from ev), rv⟩)
  have z0 : ∀ i q, Ft (start N (V.ref p :: us)) H (Slot.ol true zs :: (ds.map Slot.tr ++ List.replicate k Slot.un)) i q → i = 0 := fun i q ⟨s, e, h⟩ => by
    rcases sl i s e with ⟨z, _⟩ | z | ⟨d, v, z, _⟩
    · exact z
    · subst z; exact h.elim
    · subst z; exact h.elim
  have R : Rs c F (start N (V.ref p :: us)) H (Slot.ol true zs :: (ds.map Slot.tr ++ List.replicate k Slot.un)) := by
    refine ⟨.start u fun q h => ⟨.lst ios, by obtain ⟨_, h⟩ := h; subst h; exact hp, trivial⟩, by rw [start_len (by omega), List.length_cons, List.length_append, List.length_map, List.length_replicate]; omega, fun i s hs => ?_, fun i j q h h' => (z0 i q h).trans (z0 j q h').symm⟩
    rcases sl i s hs with ⟨z, z'⟩ | z | ⟨d, v, z, e, rv⟩
    · subst z z'; exact ⟨p, ios, at0, nF, hp, rz, by rw [if_pos rfl]; exact ⟨rfl, rfl, rfl⟩⟩
    · subst z; trivial
    · subst z; exact ⟨v, e, rv⟩
  refine ⟨c, F, _, R, ?_⟩
  have hS : ∀ q, (∃ _ : Nat, q = p) ↔ q = p := fun q => ⟨fun ⟨_, h⟩ => h, fun h => ⟨0, h⟩⟩
  have io : ∀ {F' H' : Hp} {σ' : L2.St} {ρ' : Env} {zs' : List D}, Rs c F' σ' H' ρ' → ρ'[0]? = some (.ol true zs') → ∃ vs, H' p = some (.lst vs) ∧ RdL K mg F' vs zs' := fun {F' H' σ' ρ' zs'} R' e => by
    obtain ⟨q, vs, _, _, h, r, w⟩ := R'.sl 0 _ e
    rw [if_pos rfl] at w
    have w : some p = some q := w.1
    cases w
    exact ⟨vs, h, r⟩
  have look : ∀ {ρ' : Env} {kk : List D → Fr} {Q : VK} {E : XK}, FrPostI K mg p F H (ioOf ρ' kk) Q E → ∃ zs', ρ'[0]? = some (.ol true zs') ∧ FrPostI K mg p F H (kk zs') Q E := fun {ρ' kk Q E} h => by
    unfold ioOf at h
    cases e0 : ρ'[0]? with
    | none => rw [e0] at h; exact h.elim
    | some s0 =>
      rw [e0] at h
      cases s0 with
      | ol o zs' =>
        cases o with
        | true => exact ⟨zs', rfl, h⟩
        | false => exact h.elim
      | _ => exact h.elim
  dsimp only [runI] at pp
  cases e : b (Slot.ol true zs :: (ds.map Slot.tr ++ List.replicate k Slot.un)) with
  | bad => rw [e] at pp; exact pp.elim
  | ex cn fs ρ' =>
    rw [e] at pp
    obtain ⟨zs', e0, pp⟩ := look pp
    intro C dd fsV F' H' σ' m s R' hd rf
    obtain ⟨vs, hv, rv⟩ := io R' e0
    exact pp C dd fsV F' H' vs m (R'.toHk.exit hS) hd rf hv rv
  | ok sg ρ' =>
    rw [e] at pp
    cases sg with
    | bk => exact pp.elim
    | ct => exact pp.elim
    | nx =>
      obtain ⟨zs', e0, pp⟩ := look pp
      intro σ' F' H' s R'
      obtain ⟨vs, hv, rv⟩ := io R' e0
      exact pp .non F' H' vs (R'.toHk.exit hS) .non hv rv
    | rt w =>
      intro x σ' F' H' s R' r'
      cases w with
      | o i => exact pp.elim
      | t d =>
        obtain ⟨zs', e0, pp⟩ := look pp
        obtain ⟨vs, hv, rv⟩ := io R' e0
        exact pp x F' H' vs (R'.toHk.exit hS) (r'.toR rfl (fun _ => nofun)) hv rv
      | f zs =>
        obtain ⟨zs', e0, pp⟩ := look pp
        obtain ⟨vs, hv, rv⟩ := io R' e0
        exact pp x F' H' vs (R'.toHk.exit hS) (r'.toR rfl (fun _ => nofun)) hv rv
      | g b es =>
        obtain ⟨zs', e0, pp⟩ := look pp
        obtain ⟨vs, hv, rv⟩ := io R' e0
        exact pp x F' H' vs (R'.toHk.exit hS) (r'.toR rfl (fun _ => nofun)) hv rv
      | u t =>
        obtain ⟨zs', e0, pp⟩ := look pp
        obtain ⟨vs, hv, rv⟩ := io R' e0
        exact pp x F' H' vs (R'.toHk.exit hS) (r'.toR rfl (fun _ => nofun)) hv rv
end
end Dx

namespace Dx
open PySem PySem.Spec PyProof.Rows L2 Hx
/-! ## operations on data -/
mutual
@[simp] def D.py : D → PyData
  | .non => .none
  | .bl b => .bool b
  | .int i => .int i
  | .str s => .str s
  | .lst ds => .list (D.pys ds)
  | .tup ds => .tuple (D.pys ds)
  | .dct _ _ => .dict []
  | _ => .none
@[simp] def D.pys : List D → List PyData
  | [] => []
  | d :: ds => D.py d :: D.pys ds
end
mutual
@[simp] def D.plain : D → Bool
  | .non => true
  | .bl _ => true
  | .int _ => true
  | .str _ => true
  | .lst ds => D.plains ds
  | .tup ds => D.plains ds
  | _ => false
@[simp] def D.plains : List D → Bool
  | [] => true
  | d :: ds => D.plain d && D.plains ds
end
-- plain, or with empty dicts within (D.py is meant of these alone)
mutual
@[simp] def D.plainE : D → Bool
  | .non => true
  | .bl _ => true
  | .int _ => true
  | .str _ => true
  | .lst ds => D.plainsE ds
  | .tup ds => D.plainsE ds
  | .dct _ [] => true
  | _ => false
@[simp] def D.plainsE : List D → Bool
  | [] => true
  | d :: ds => D.plainE d && D.plainsE ds
end
section
variable {K : PySem.W.Frag} {mg : Str → Option Value} {F H : Hp}
/-! what repr shows of data with empty dicts within. h₀: the heap, or the heap without the dict of the modules (of which no list of ours is known to keep away) -/
section
variable {prog : Program} {w : World} {h₀ : Heap}
mutual
theorem reprE (ns : ∀ o, h₀.get? sysModules = some o → o.cls ≠ .type "dict") : ∀ {v : Value} {d : D} {as : List Addr}, Reads h₀ v d.py as → d.plainE = true → d.py.showable = true → d.py.shown.length ≤ sizeLine → ∃ bs, ReadAtMost h₀ d.py.depth bs ∧ ReprK prog w bs h₀ d.py.depth v d.py.shown
  | _, .non, _, r, _, hs, hz => ReprK.of_reads r hs (fun h => by simp [PyData.hasDict] at h) hz
  | _, .bl _, _, r, _, hs, hz => ReprK.of_reads r hs (fun h => by simp [PyData.hasDict] at h) hz
  | _, .int _, _, r, _, hs, hz => ReprK.of_reads r hs (fun h => by simp [PyData.hasDict] at h) hz
  | _, .str _, _, r, _, hs, hz => ReprK.of_reads r hs (fun h => by simp [PyData.hasDict] at h) hz
  | v, .lst ds, _, r, p, hs, hz => by
    rw [D.py] at r hs hz ⊢
    rw [PyData.shown] at hz ⊢
    have r' := r
    cases r with
    | @list a o vs n _ _ h1 h2 h3 h4 =>
      obtain ⟨bs, hb, hk⟩ := reprsE ns h4 (by rw [D.plainE] at p; exact p) (by rw [PyData.showable] at hs; exact hs) (fun t ht => Nat.le_trans (listText_mem_le ht) hz)
      rw [PyData.depth]
      have up : PyData.depthAll (D.pys ds) < (PyData.list (D.pys ds)).depth := by rw [PyData.depth]; omega
      have na : a ∉ bs := not_mem_of_deeper r' up hb
      refine ⟨a :: bs, (by have := ReadAtMost.cons r' (Nat.le_of_lt up) hb; rw [PyData.depth] at this; exact this), ?_⟩
      obtain ⟨l⟩ := vs
      cases l with
      | nil =>
        have e : D.pys ds = [] := by
          have h := h4
          generalize D.pys ds = xs at h
          cases (show ReadsAll h₀ [] xs _ from h)
          rfl
        rw [e]
        simp only [PyData.shownAll, listText_nil]
        exact ReprK.listEmpty h1 h2 h3
      | cons x l => exact ReprK.list h1 h2 h3 na (by simpa using hk.length_eq) (fun i y e => hk.item i y (by simpa using e))
  | v, .tup ds, _, r, p, hs, hz => by
    rw [D.py] at r hs hz ⊢
    rw [PyData.shown] at hz ⊢
    have r' := r
    cases r with
    | @tuple a o vs n _ _ h1 h2 h3 h4 =>
      obtain ⟨bs, hb, hk⟩ := reprsE ns h4 (by rw [D.plainE] at p; exact p) (by rw [PyData.showable] at hs; exact hs) (fun t ht => Nat.le_trans (tupleText_mem_le ht) hz)
      rw [PyData.depth]
      have up : PyData.depthAll (D.pys ds) < (PyData.tuple (D.pys ds)).depth := by rw [PyData.depth]; omega
      exact ⟨a :: bs, (by have := ReadAtMost.cons r' (Nat.le_of_lt up) hb; rw [PyData.depth] at this; exact this), ReprK.tuple h1 h2 h3 (not_mem_of_deeper r' up hb) hk⟩
  | v, .dct _ es, _, r, p, hs, hz => by
    rw [D.py] at r hs hz ⊢
    cases r with
    | @dict a o es n _ _ _ h1 h2 h3 h4 h5 =>
      refine ReprK.of_reads (Reads.dict h1 h2 h3 h4 h5) hs (fun _ m => ?_) hz
      cases h4' : es.toList with
      | cons _ _ => rw [h4'] at h4; cases h4
      | nil =>
        rw [h4'] at h4 h5
        cases h4
        cases h5
        have e : sysModules = a := by simpa using m
        exact ns o (by rw [e]; exact h1) h2
  | _, .scr _, _, _, p, _, _ => by simp [D.plainE] at p
  | _, .ins _ _, _, _, p, _, _ => by simp [D.plainE] at p
  | _, .ty _, _, _, p, _, _ => by simp [D.plainE] at p
  | _, .cls _, _, _, p, _, _ => by simp [D.plainE] at p
theorem reprsE (ns : ∀ o, h₀.get? sysModules = some o → o.cls ≠ .type "dict") : ∀ {vs : List Value} {ds : List D} {as : List Addr}, ReadsAll h₀ vs (D.pys ds) as → D.plainsE ds = true → PyData.showableAll (D.pys ds) = true → (∀ t ∈ PyData.shownAll (D.pys ds), t.length ≤ sizeLine) →
    ∃ bs, ReadAtMost h₀ (PyData.depthAll (D.pys ds)) bs ∧ ReprAllK prog w bs h₀ (PyData.depthAll (D.pys ds)) vs (PyData.shownAll (D.pys ds))
  | _, [], _, r, p, hs, hz => ReprAllK.of_readsAll r hs (fun h => by simp [PyData.hasDictAll] at h) hz
  | _, d :: ds, _, r, p, hs, hz => by
    rw [D.pys] at r hs hz ⊢
    rw [D.plainsE, Bool.and_eq_true] at p
    rw [PyData.showableAll, Bool.and_eq_true] at hs
    rw [PyData.shownAll] at hz ⊢
    rw [PyData.depthAll]
    cases r with
    | cons r rs =>
      obtain ⟨b1, hb1, k1⟩ := reprE ns r p.1 hs.1 (hz _ List.mem_cons_self)
      obtain ⟨b2, hb2, k2⟩ := reprsE ns rs p.2 hs.2 fun t ht => hz t (List.mem_cons_of_mem _ ht)
      exact ⟨b1 ++ b2, (hb1.mono (Nat.le_max_left _ _)).append (hb2.mono (Nat.le_max_right _ _)), .cons ((k1.more fun b hb => List.mem_append_left _ hb).level_le (Nat.le_max_left _ _)) (k2.more_le (fun b hb => List.mem_append_right _ hb) (Nat.le_max_right _ _))⟩
end
end
theorem noDictSys (h : Heap) : ∃ h₀ : Heap, (∀ b o, h₀.get? b = some o → h.get? b = some o) ∧ (∀ o, h₀.get? sysModules = some o → o.cls ≠ .type "dict") ∧ ∀ b o, h.get? b = some o → (b = sysModules → o.cls ≠ .type "dict") → h₀.get? b = some o := by
  by_cases c : ∃ o, h.get? sysModules = some o ∧ o.cls = .type "dict"
  · obtain ⟨o, e, d⟩ := c
    refine ⟨hidT h fun b => if b = sysModules then some (.lst []) else none, fun b o e => (of_hidT e).1, fun o e => ?_, fun b o' e' n => hidT_get e' ?_⟩
    · have := (of_hidT e).2
      simp at this
    · by_cases z : b = sysModules
      · subst z
        rw [e] at e'; cases e'
        exact absurd d (n rfl)
      · simp [z]
  · exact ⟨h, fun _ _ e => e, fun o e d => c ⟨o, e, d⟩, fun _ _ e _ => e⟩
section
variable {X : Cx} {pins : List (Addr × Obj)} {σ : L2.St} {s : Shared}
theorem dict0_reads {h₀ : Heap} (up : ∀ b o, s.heap.get? b = some o → (b = sysModules → o.cls ≠ .type "dict") → h₀.get? b = some o) {a : Addr} {o : HO} (I : Inv X pins σ H s) (h : L2.Rd H a o) (z : o = .dK [] ∨ o = .dT []) : Reads h₀ (.ref a) (.dict []) [a] := by
  rcases z with rfl | rfl
  · obtain ⟨_, hs, vs, kv, dd⟩ : ObjOk X.prog X.w H s.heap a (.dK []) := h.ok I.hok
    cases kv
    obtain ⟨o, es, ep, h1, h2, h3, h4, h5, h6⟩ := dd
    have el : es.toList = [] := by
      generalize es.toList = l at h5
      cases h5
      rfl
    exact Reads.dict (kvs := []) (up _ _ h1 fun e => absurd e (beq_eq_false_iff_ne.mp hs)) h2.1 h3 (by rw [el]; exact .nil) (by rw [el]; exact .nil)
  · obtain ⟨_, hs, xs, kv, dd⟩ : ObjOk X.prog X.w H s.heap a (.dT []) := h.ok I.hok
    cases kv
    obtain ⟨o, es, ep, h1, h2, h3, h4, h5, h6⟩ := dd
    exact Reads.dict (kvs := []) (up _ _ h1 fun e => absurd e (beq_eq_false_iff_ne.mp hs)) h2.1 h3 (by rw [h4]; exact .nil) (by rw [h4]; exact .nil)
mutual
theorem Rd.reads {h₀ : Heap} (up : ∀ b o, s.heap.get? b = some o → (b = sysModules → o.cls ≠ .type "dict") → h₀.get? b = some o) {mg : Str → Option Value} (I : Inv X pins σ H s) (u : Up F H) : ∀ {v : V} {d : D} {w : Value}, Rd X.K mg F v d → RelV v w → d.plainE = true → ∃ as, Reads h₀ w d.py as
  | _, _, _, .non, r, _ => by cases r; exact ⟨_, Reads.none⟩
  | _, _, _, .bl b, r, _ => by cases r; exact ⟨_, Reads.bool b⟩
  | _, _, _, .int i, r, _ => by obtain ⟨t, rfl⟩ := r; exact ⟨_, Reads.int i t⟩
  | _, _, _, .str x, r, _ => by obtain ⟨t, rfl⟩ := r; exact ⟨_, Reads.str x t⟩
  | _, _, _, @Rd.lst _ _ _ a vs ds h rl, r, p => by
    cases r
    have hh := u.lst h
    obtain ⟨its, rv, ⟨o, n, ho, hc, _, hd⟩, _⟩ := I.list (sq_of (K := X.K) hh)
    obtain ⟨as, hr⟩ := RdL.reads up I u rl rv (by rw [D.plainE] at p; exact p)
    exact ⟨_, Reads.list (up _ _ ho fun _ e => by rw [hc] at e; injection e with e; exact absurd e (by decide)) hc hd hr⟩
  | _, _, _, @Rd.tup _ _ _ a vs ds h rl, r, p => by
    cases r
    obtain ⟨its, rv, ⟨o, ho, hc, n, hd⟩, _⟩ := I.tuple (st_of (K := X.K) (u.tup h))
    obtain ⟨as, hr⟩ := RdL.reads up I u rl rv (by rw [D.plainE] at p; exact p)
    exact ⟨_, Reads.tuple (up _ _ ho fun _ e => by rw [hc] at e; injection e with e; exact absurd e (by decide)) hc hd hr⟩
  | _, _, _, .scr _ _, _, p => by simp [D.plainE] at p
  | _, _, _, @Rd.dK _ _ _ a kvs es h rl, r, p => by
    cases r
    cases rl with
    | nil => exact ⟨_, dict0_reads up I (u.rd h) (.inl rfl)⟩
    | cons _ _ => simp [D.plainE] at p
  | _, _, _, @Rd.dT _ _ _ a kvs es h rl, r, p => by
    cases r
    cases rl with
    | nil => exact ⟨_, dict0_reads up I (u.rd h) (.inr rfl)⟩
    | cons _ _ => simp [D.plainE] at p
  | _, _, _, .ins _ _ _, _, p => by simp [D.plainE] at p
  | _, _, _, .ty _, _, p => by simp [D.plainE] at p
theorem RdL.reads {h₀ : Heap} (up : ∀ b o, s.heap.get? b = some o → (b = sysModules → o.cls ≠ .type "dict") → h₀.get? b = some o) {mg : Str → Option Value} (I : Inv X pins σ H s) (u : Up F H) : ∀ {v : List V} {d : List D} {w : List Value}, RdL X.K mg F v d → Vals v w → D.plainsE d = true → ∃ as, ReadsAll h₀ w (D.pys d) as
  | _, _, _, .nil, r, _ => by cases r; exact ⟨_, ReadsAll.nil⟩
  | _, _, _, .cons h hs, r, p => by
    rw [D.plainsE, Bool.and_eq_true] at p
    cases r with
    | cons r1 r2 =>
      obtain ⟨as, q1⟩ := Rd.reads up I u h r1 p.1
      obtain ⟨bs, q2⟩ := RdL.reads up I u hs r2 p.2
      exact ⟨_, ReadsAll.cons q1 q2⟩
end
end
mutual
theorem Rd.dp (u : Up F H) : ∀ {v : V} {d : D}, Rd K mg F v d → d.plain = true → Dp K H v d.py
  | _, _, .non, _ => .non
  | _, _, .bl b, _ => .bl b
  | _, _, .int i, _ => .int i
  | _, _, .str s, _ => .str s
  | _, _, .lst h r, p => by rw [D.py]; exact .lst (sq_of (u.lst h)) (RdL.dp u r (by rw [D.plain] at p; exact p))
  | _, _, .tup h r, p => by rw [D.py]; exact .tup (st_of (u.tup h)) (RdL.dp u r (by rw [D.plain] at p; exact p))
  | _, _, .scr _ _, p => by simp [D.plain] at p
  | _, _, .dK _ _, p => by simp [D.plain] at p
  | _, _, .dT _ _, p => by simp [D.plain] at p
  | _, _, .ins _ _ _, p => by simp [D.plain] at p
  | _, _, .ty _, p => by simp [D.plain] at p
  | _, _, .cls _, p => by simp [D.plain] at p
theorem RdL.dp (u : Up F H) : ∀ {v : List V} {d : List D}, RdL K mg F v d → D.plains d = true → DpAll K H v (D.pys d)
  | _, _, .nil, _ => .nil
  | _, _, .cons h r, p => by
    rw [D.plains, Bool.and_eq_true] at p
    rw [D.pys]; exact .cons (Rd.dp u h p.1) (RdL.dp u r p.2)
end
theorem Pk.dp {x : V} {d : D} (u : Up F H) (h : Pk K mg F H x d) (p : d.plain = true) : Dp K H x d.py := by
  rcases h with h | ⟨q, vs, ds, rfl, rfl, h, r⟩ | ⟨_, _, _, _, rfl, _⟩
  · exact h.dp u p
  · rw [D.py]; exact .lst (sq_of h) (r.dp u (by rw [D.plain] at p; exact p))
  · simp [D.plain] at p
end
def D.flat : D → Option V
  | .non => some .non
  | .bl b => some (.bl b)
  | .int i => some (.int i)
  | .str s => some (.str s)
  | _ => none
@[simp] def D.flats : List D → Option (List V)
  | [] => some []
  | d :: ds => match d.flat, D.flats ds with
    | some v, some vs => some (v :: vs)
    | _, _ => none
section
variable {K : PySem.W.Frag} {mg : Str → Option Value} {F H : Hp}
theorem Rd.flat {x v : V} {d : D} (h : Rd K mg F x d) (e : d.flat = some v) : x = v ∧ flatV v = true := by
  cases h <;> cases e <;> exact ⟨rfl, rfl⟩
theorem Pk.flat {x v : V} {d : D} (h : Pk K mg F H x d) (e : d.flat = some v) : x = v ∧ flatV v = true := by
  rcases h with h | ⟨q, vs, ds, rfl, rfl, h, r⟩ | ⟨_, _, _, _, rfl, _⟩
  · exact h.flat e
  · cases e
  · cases e
theorem RdL.flat : ∀ {xs vs : List V} {ds : List D}, RdL K mg F xs ds → D.flats ds = some vs → xs = vs ∧ vs.all flatV = true
  | _, _, _, .nil, e => by cases e; exact ⟨rfl, rfl⟩
  | _, _, _, .cons (d := d) (ds := ds) h r, e => by
    rw [D.flats] at e
    cases e1 : d.flat with
    | none => rw [e1] at e; cases e
    | some v =>
      cases e2 : D.flats ds with
      | none => rw [e1, e2] at e; cases e
      | some vs =>
        rw [e1, e2] at e
        cases e
        obtain ⟨rfl, f1⟩ := h.flat e1
        obtain ⟨rfl, f2⟩ := RdL.flat r e2
        exact ⟨rfl, by rw [List.all_cons, f1, f2]; rfl⟩
end
/-- a truth, a number given -/
@[simp] def wb (b : Bool) : Option W := some (.t (.bl b))
@[simp] def wi (i : Int) : Option W := some (.t (.int i))
@[simp] def ws (s : Str) : Option W := some (.t (.str s))
def eqD : D → D → Option Bool
  | .int a, .int b => some (decide (a = b))
  | .str a, .str b => some (decide (a = b))
  | .bl a, .bl b => some (decide (a = b))
  | .non, .non => some true
  | .non, .int _ => some false
  | .int _, .non => some false
  | .non, .bl _ => some false
  | .bl _, .non => some false
  | .non, .str _ => some false
  | .str _, .non => some false
  | .int _, .str _ => some false
  | .str _, .int _ => some false
  | .bl _, .str _ => some false
  | .str _, .bl _ => some false
  | .tup ds, .tup [] => some ds.isEmpty
  | .lst ds, .lst [] => some ds.isEmpty
  | d, e => if d.plain = true ∧ e.plain = true ∧ Nat.min d.py.depth e.py.depth ≤ 64 then some (PyData.eqv d.py e.py) else none
def repD (a : List D) (n : Nat) : List D := (List.replicate n a).flatten
def isNon : D → Bool
  | .non => true
  | _ => false
namespace O
def add : D → D → Option W
  | .int a, .int b => wi (a + b)
  | .str a, .str b => if a.length + b.length ≤ 16000000 then ws (a ++ b) else none
  | .lst a, .lst b => if a.length + b.length ≤ 16000000 then some (.f (a ++ b)) else none
  | .tup a, .tup b => if a.length + b.length ≤ 16000000 ∧ a ≠ [] ∧ b ≠ [] then some (.t (.tup (a ++ b))) else none
  | _, _ => none
def sub : D → D → Option W
  | .int a, .int b => wi (a - b)
  | _, _ => none
def mul : D → D → Option W
  | .int a, .int b => if (-(2 ^ 64) < a ∧ a < 2 ^ 64) ∨ (-(2 ^ 64) < b ∧ b < 2 ^ 64) then wi (a * b) else none
  | .str z, .int b => if 0 ≤ b ∧ b ≤ 1000000 ∧ z.length ≤ 1000000 ∧ z.length * b.toNat ≤ 1000000 then ws (mulS z b.toNat) else none
  | .lst a, .int b => if b ≤ 1000000 ∧ -1000000 ≤ b ∧ a.length * b.toNat ≤ 16000000 then some (.f (repD a b.toNat)) else none
  | _, _ => none
def mod : D → D → Option W
  | .int a, .int b => if 0 < b then wi (a % b) else none
  | _, _ => none
def fdiv : D → D → Option W
  | .int a, .int b => if 0 < b ∧ b < 1073741824 then wi (a / b) else none
  | _, _ => none
def pow : D → D → Option W
  | .int a, .int b => if 0 ≤ b ∧ b ≤ 1000000 ∧ a.natAbs < 2 ^ 64 then wi (a ^ b.toNat) else none
  | _, _ => none
def xor : D → D → Option W
  | .int a, .int b => wi (Builtin.bitXor a b)
  | _, _ => none
def eq (d e : D) : Option W := (eqD d e).map fun b => .t (.bl b)
def ne (d e : D) : Option W := (eqD d e).map fun b => .t (.bl (!b))
def lt : D → D → Option W
  | .int a, .int b => wb (decide (a < b))
  | d, e => if d.plain = true ∧ e.plain = true ∧ PySem.W.alike d.py e.py = true ∧ d.py.depth ≤ 60 ∧ isNon d = false then wb (PySem.W.dataLt d.py e.py) else none
def le : D → D → Option W
  | .int a, .int b => wb (decide (a ≤ b))
  | _, _ => none
def gt : D → D → Option W
  | .int a, .int b => wb (decide (b < a))
  | _, _ => none
def ge : D → D → Option W
  | .int a, .int b => wb (decide (b ≤ a))
  | _, _ => none
def isN : D → D → Option W
  | d, .non => wb (isNon d)
  | _, _ => none
def notN : D → D → Option W
  | d, .non => wb (!isNon d)
  | _, _ => none
def neg : D → Option W
  | .int a => wi (-a)
  | _ => none
end O
section
variable {K : PySem.W.Frag} {mg : Str → Option Value}
theorem d_add : OpD2 K mg (fun x y H Q => rAddU x y H Q ∨ rCatT K x y H Q) O.add := by
  intro F H x y d e Q u hx hy q
  unfold O.add at q
  split at q
  · cases hx.int; cases hy.int; exact .inl (g_addI (q.sc u fun _ => .int _))
  · cases hx.str; cases hy.str
    split at q
    · rename_i l; exact .inl (g_addS (by rw [sizeLine_eq]; omega) (q.sc u fun _ => .str _))
    · exact q.elim
  · obtain ⟨a, xs, rfl, h1, r1⟩ := hx.lst u
    obtain ⟨b, ys, rfl, h2, r2⟩ := hy.lst u
    split at q
    · rename_i l
      exact .inl (g_addL h1 h2 (by rw [r1.len, r2.len, sizeLine_eq]; omega) fun p np => q p _ np (r1.app r2))
    · exact q.elim
  · obtain ⟨a, xs, rfl, h1, r1⟩ := hx.tup u
    obtain ⟨b, ys, rfl, h2, r2⟩ := hy.tup u
    split at q
    · rename_i l
      refine .inr ⟨a, b, xs, ys, rfl, rfl, st_of h1, st_of h2, ?_, by rw [r1.len, r2.len, sizeLine_eq]; omega, fun z => ?_, fun _ p np => q.tupN u np (r1.app r2)⟩
      · intro z; subst z; cases r1; exact l.2.1 rfl
      · subst z; cases r2; exact absurd rfl l.2.2
    · exact q.elim
  · exact q.elim
theorem d_sub : OpD2 K mg (rI0 fun i j => .int (i - j)) O.sub := by
  intro F H x y d e Q u hx hy q
  unfold O.sub at q
  split at q
  · cases hx.int; cases hy.int; exact g_rI0 (q.sc u fun _ => .int _)
  · exact q.elim
theorem d_mul : OpD2 K mg rMulU O.mul := by
  intro F H x y d e Q u hx hy q
  unfold O.mul at q
  split at q
  · cases hx.int; cases hy.int
    split at q
    · rename_i l; exact g_mulI l (q.sc u fun _ => .int _)
    · exact q.elim
  · cases hx.str; cases hy.int
    split at q
    · rename_i b l
      have e : b = ((b.toNat : Nat) : Int) := by omega
      rw [e]
      exact g_mulS (by omega) l.2.2.2 l.2.2.1 (q.sc u fun _ => .str _)
    · exact q.elim
  · obtain ⟨a, xs, rfl, h1, r1⟩ := hx.lst u
    cases hy.int
    split at q
    · rename_i b l
      refine .inr (.inr ⟨a, b, xs, rfl, rfl, h1, by omega, by omega, by rw [r1.len, sizeLine_eq]; omega, fun p np => q p _ np ?_⟩)
      unfold repD
      generalize b.toNat = n
      induction n with
      | zero => exact .nil
      | succ n ih => rw [List.replicate_succ, List.replicate_succ, List.flatten_cons, List.flatten_cons]; exact r1.app ih
    · exact q.elim
  · exact q.elim
theorem d_mod : OpD2 K mg (rI (fun _ j => 0 < j) fun i j => .int (i % j)) O.mod := by
  intro F H x y d e Q u hx hy q
  unfold O.mod at q
  split at q
  · cases hx.int; cases hy.int
    split at q
    · rename_i l; exact g_mod l (q.sc u fun _ => .int _)
    · exact q.elim
  · exact q.elim
theorem d_fdiv : OpD2 K mg (rI CDiv fun i j => .int (i / j)) O.fdiv := by
  intro F H x y d e Q u hx hy q
  unfold O.fdiv at q
  split at q
  · cases hx.int; cases hy.int
    split at q
    · rename_i l; exact g_div l (q.sc u fun _ => .int _)
    · exact q.elim
  · exact q.elim
theorem d_pow : OpD2 K mg (rI CPow fun i j => .int (i ^ j.toNat)) O.pow := by
  intro F H x y d e Q u hx hy q
  unfold O.pow at q
  split at q
  · cases hx.int; cases hy.int
    split at q
    · rename_i l; exact g_pow l (q.sc u fun _ => .int _)
    · exact q.elim
  · exact q.elim
theorem d_xor : OpD2 K mg (rI0 fun i j => .int (Builtin.bitXor i j)) O.xor := by
  intro F H x y d e Q u hx hy q
  unfold O.xor at q
  split at q
  · cases hx.int; cases hy.int; exact g_rI0 (q.sc u fun _ => .int _)
  · exact q.elim
theorem d_lt : OpD2 K mg (rLtU K) O.lt := by
  intro F H x y d e Q u hx hy q
  unfold O.lt at q
  split at q
  · cases hx.int; cases hy.int; exact g_ltI (q.sc u fun _ => .bl _)
  · split at q
    · rename_i c
      refine g_ltD (hx.dp u c.1) (hy.dp u c.2.1) c.2.2.1 (fun z => ?_) c.2.2.2.1 (q.sc u fun _ => .bl _)
      have p := c.1
      have n := c.2.2.2.2
      cases d <;> first | (simp [isNon] at n; done) | (simp [D.py] at z; done) | (simp [D.plain] at p; done)
    · exact q.elim
theorem d_le : OpD2 K mg (rI0 fun i j => .bl (decide (i ≤ j))) O.le := by
  intro F H x y d e Q u hx hy q
  unfold O.le at q
  split at q
  · cases hx.int; cases hy.int; exact g_rI0 (q.sc u fun _ => .bl _)
  · exact q.elim
theorem d_gt : OpD2 K mg (rI0 fun i j => .bl (decide (j < i))) O.gt := by
  intro F H x y d e Q u hx hy q
  unfold O.gt at q
  split at q
  · cases hx.int; cases hy.int; exact g_rI0 (q.sc u fun _ => .bl _)
  · exact q.elim
theorem d_ge : OpD2 K mg (rI0 fun i j => .bl (decide (j ≤ i))) O.ge := by
  intro F H x y d e Q u hx hy q
  unfold O.ge at q
  split at q
  · cases hx.int; cases hy.int; exact g_rI0 (q.sc u fun _ => .bl _)
  · exact q.elim
theorem d_neg : OpD1 K mg (rU fun i => .int (-i)) O.neg := by
  intro F H x d Q u hx q
  unfold O.neg at q
  split at q
  · cases hx.int; exact g_rU (q.sc u fun _ => .int _)
  · exact q.elim
mutual
theorem D.plain_py : ∀ {d : D}, d.plain = true → d.py.plain = true
  | .non, _ => rfl
  | .bl _, _ => rfl
  | .int _, _ => rfl
  | .str _, _ => rfl
  | .lst ds, h => by rw [D.py, PyData.plain]; exact D.plains_py (by rw [D.plain] at h; exact h)
  | .tup ds, h => by rw [D.py, PyData.plain]; exact D.plains_py (by rw [D.plain] at h; exact h)
  | .scr _, h => by simp [D.plain] at h
  | .dct _ _, h => by simp [D.plain] at h
  | .ins _ _, h => by simp [D.plain] at h
  | .ty _, h => by simp [D.plain] at h
  | .cls _, h => by simp [D.plain] at h
theorem D.plains_py : ∀ {ds : List D}, D.plains ds = true → PyData.plainAll (D.pys ds) = true
  | [], _ => rfl
  | d :: ds, h => by
    rw [D.plains, Bool.and_eq_true] at h
    rw [D.pys, PyData.plainAll, D.plain_py h.1, D.plains_py h.2]; rfl
end
theorem eqD_some {F H : Hp} {x y : V} {d e : D} {b : Bool} (u : Up F H) (hx : Pk K mg F H x d) (hy : Pk K mg F H y e) (h : eqD d e = some b) :
    (scal x y = true ∧ b = decide (x = y)) ∨ (∃ p q vs, x = .ref p ∧ y = .ref q ∧ (H p = some (.tup vs) ∧ H q = some (.tup []) ∨ H p = some (.lst vs) ∧ H q = some (.lst [])) ∧ b = vs.isEmpty) ∨ ∃ p q, Dp K H x p ∧ Dp K H y q ∧ p.plain = true ∧ q.plain = true ∧ Nat.min p.depth q.depth ≤ 64 ∧ b = PyData.eqv p q := by
  unfold eqD at h
  split at h
  · cases hx.int; cases hy.int; cases h; exact .inl ⟨rfl, decide_eq_decide.mpr ⟨fun h => by rw [h], fun h => V.int.inj h⟩⟩
  · cases hx.str; cases hy.str; cases h; exact .inl ⟨rfl, decide_eq_decide.mpr ⟨fun h => by rw [h], fun h => V.str.inj h⟩⟩
  · cases hx.bl; cases hy.bl; cases h; exact .inl ⟨rfl, decide_eq_decide.mpr ⟨fun h => by rw [h], fun h => V.bl.inj h⟩⟩
  · cases hx.non; cases hy.non; cases h; exact .inl ⟨rfl, rfl⟩
  · cases hx.non; cases hy.int; cases h; exact .inl ⟨rfl, rfl⟩
  · cases hx.int; cases hy.non; cases h; exact .inl ⟨rfl, rfl⟩
  · cases hx.non; cases hy.bl; cases h; exact .inl ⟨rfl, rfl⟩
  · cases hx.bl; cases hy.non; cases h; exact .inl ⟨rfl, rfl⟩
  · cases hx.non; cases hy.str; cases h; exact .inl ⟨rfl, rfl⟩
  · cases hx.str; cases hy.non; cases h; exact .inl ⟨rfl, rfl⟩
  · cases hx.int; cases hy.str; cases h; exact .inl ⟨rfl, rfl⟩
  · cases hx.str; cases hy.int; cases h; exact .inl ⟨rfl, rfl⟩
  · cases hx.bl; cases hy.str; cases h; exact .inl ⟨rfl, rfl⟩
  · cases hx.str; cases hy.bl; cases h; exact .inl ⟨rfl, rfl⟩
  · rename_i ds
    cases h
    obtain ⟨p, vs, rfl, hp, r⟩ := hx.tup u
    obtain ⟨q, ws, rfl, hq, r2⟩ := hy.tup u
    cases r2
    exact .inr (.inl ⟨p, q, vs, rfl, rfl, .inl ⟨hp, hq⟩, by cases r <;> rfl⟩)
  · rename_i ds
    cases h
    obtain ⟨p, vs, rfl, hp, r⟩ := hx.lst u
    obtain ⟨q, ws, rfl, hq, r2⟩ := hy.lst u
    cases r2
    exact .inr (.inl ⟨p, q, vs, rfl, rfl, .inr ⟨hp, hq⟩, by cases r <;> rfl⟩)
  · split at h
    · rename_i c
      cases h
      exact .inr (.inr ⟨_, _, hx.dp u c.1, hy.dp u c.2.1, D.plain_py c.1, D.plain_py c.2.1, c.2.2, rfl⟩)
    · cases h
/-- == and != beside an empty one -/
def rE0 (g : Bool → Bool) : R2 := fun x y H Q => ∃ p q vs, x = .ref p ∧ y = .ref q ∧ (H p = some (.tup vs) ∧ H q = some (.tup []) ∨ H p = some (.lst vs) ∧ H q = some (.lst [])) ∧ Q (.bl (g vs.isEmpty)) H
section
variable {X : Cx}
theorem op_eq0 (hu : X.A.units + 64 < cLine) : OpR X (compareOp .Eq) (rE0 id) := by
  intro pins s σ H x y v u Q I rx ry h
  obtain ⟨p, q, vs, rfl, rfl, h, k⟩ := h
  cases rx
  cases ry
  rcases h with ⟨h1, h2⟩ | ⟨h1, h2⟩
  · obtain ⟨i1, r1, t1, _⟩ := I.tuple (st_of (K := X.K) h1)
    obtain ⟨i2, r2, t2, _⟩ := I.tuple (st_of (K := X.K) h2)
    cases r2
    refine SeqAt.eq_tupleAt (e := fun _ => true) t1 t2 (by omega) (fun j _ h => by simp at h) ⟨.bl _, H, I, ?_, k⟩
    cases r1 <;> rfl
  · obtain ⟨i1, r1, t1, _⟩ := I.list (sq_of (K := X.K) h1)
    obtain ⟨i2, r2, t2, _⟩ := I.list (sq_of (K := X.K) h2)
    cases r2
    cases r1 with
    | nil => exact SeqAt.eq_listAt (e := fun _ => true) t1.isList t2.isList rfl (by omega) (fun j _ h => by simp at h) ⟨.bl _, H, I, rfl, k⟩
    | cons _ _ => exact SeqAt.eq_list_lengthsAt t1.isList t2.isList rfl (by omega) ⟨.bl _, H, I, rfl, k⟩
theorem op_ne0 (hu : X.A.units + 64 < cLine) : OpR X (compareOp .NotEq) (rE0 not) := by
  intro pins s σ H x y v u Q I rx ry h
  obtain ⟨p, q, vs, rfl, rfl, h, k⟩ := h
  cases rx
  cases ry
  rcases h with ⟨h1, h2⟩ | ⟨h1, h2⟩
  · obtain ⟨i1, r1, t1, _⟩ := I.tuple (st_of (K := X.K) h1)
    obtain ⟨i2, r2, t2, _⟩ := I.tuple (st_of (K := X.K) h2)
    cases r2
    refine SeqAt.RcNeAt.tuples (e := fun _ => true) t1 t2 (by omega) (fun j _ h => by simp at h) _ _ _ _ ⟨.bl _, H, I, ?_, k⟩
    cases r1 <;> rfl
  · obtain ⟨i1, r1, t1, _⟩ := I.list (sq_of (K := X.K) h1)
    obtain ⟨i2, r2, t2, _⟩ := I.list (sq_of (K := X.K) h2)
    cases r2
    cases r1 with
    | nil => exact SeqAt.RcNeAt.lists (e := fun _ => true) t1.isList t2.isList rfl (by omega) (fun j _ h => by simp at h) _ _ _ _ ⟨.bl _, H, I, rfl, k⟩
    | cons _ _ => exact SeqAt.RcNeAt.lists_lengths t1.isList t2.isList rfl (by omega) _ _ _ _ ⟨.bl _, H, I, rfl, k⟩
/-- == of any plain data, one of them not deep -/
def rEqP (K : PySem.W.Frag) : R2 := fun x y H Q => ∃ d e, Dp K H x d ∧ Dp K H y e ∧ d.plain = true ∧ e.plain = true ∧ Nat.min d.depth e.depth ≤ 64 ∧ Q (.bl (PyData.eqv d e)) H
def rNeP (K : PySem.W.Frag) : R2 := fun x y H Q => ∃ d e, Dp K H x d ∧ Dp K H y e ∧ d.plain = true ∧ e.plain = true ∧ Nat.min d.depth e.depth ≤ 64 ∧ Q (.bl (!PyData.eqv d e)) H
theorem op_eqP (hu : X.A.units + 64 < cLine) : OpR X (compareOp .Eq) (rEqP X.K) := by
  intro pins s σ H x y v u Q I rx ry h
  obtain ⟨d, e, hd, he, p1, p2, dp, q⟩ := h
  obtain ⟨as, r1⟩ := Dp.reads I d x v hd rx
  obtain ⟨bs, r2⟩ := Dp.reads I e y u he ry
  exact SeqAt.eq_plain r1 r2 p1 p2 (Nat.lt_of_le_of_lt (Nat.add_le_add_left dp _) hu) ⟨.bl _, H, I, rfl, q⟩
theorem op_neP (hu : X.A.units + 64 < cLine) : OpR X (compareOp .NotEq) (rNeP X.K) := by
  intro pins s σ H x y v u Q I rx ry h
  obtain ⟨d, e, hd, he, p1, p2, dp, q⟩ := h
  obtain ⟨as, r1⟩ := Dp.reads I d x v hd rx
  obtain ⟨bs, r2⟩ := Dp.reads I e y u he ry
  exact SeqAt.ne_plain r1 r2 p1 p2 (Nat.lt_of_le_of_lt (Nat.add_le_add_left dp _) hu) ⟨.bl _, H, I, rfl, q⟩
theorem op_eqW {K : PySem.W.Frag} (hK : X.K = K) (hu : X.A.units + 64 < cLine) : OpR X (compareOp .Eq) (fun x y H Q => (rEq x y H Q ∨ rEqP K x y H Q) ∨ rE0 id x y H Q) := by subst hK; exact (op_eq.or (op_eqP hu)).or (op_eq0 hu)
theorem op_neW {K : PySem.W.Frag} (hK : X.K = K) (hu : X.A.units + 64 < cLine) : OpR X (compareOp .NotEq) (fun x y H Q => (rNe x y H Q ∨ rNeP K x y H Q) ∨ rE0 not x y H Q) := by subst hK; exact (op_ne.or (op_neP hu)).or (op_ne0 hu)
end
theorem d_eq : OpD2 K mg (fun x y H Q => (rEq x y H Q ∨ rEqP K x y H Q) ∨ rE0 id x y H Q) O.eq := by
  intro F H x y d e Q u hx hy q
  unfold O.eq at q
  cases h : eqD d e with
  | none => rw [h] at q; exact q.elim
  | some b =>
    rw [h] at q
    rcases eqD_some u hx hy h with ⟨s, rfl⟩ | ⟨p1, p2, vs, e1, e2, h1, rfl⟩ | ⟨p1, p2, h1, h2, s1, s2, s3, rfl⟩
    · exact .inl (.inl ⟨s, q.sc u fun _ => .bl _⟩)
    · exact .inr ⟨p1, p2, vs, e1, e2, h1, q.sc u fun _ => .bl _⟩
    · exact .inl (.inr ⟨p1, p2, h1, h2, s1, s2, s3, q.sc u fun _ => .bl _⟩)
theorem d_ne : OpD2 K mg (fun x y H Q => (rNe x y H Q ∨ rNeP K x y H Q) ∨ rE0 not x y H Q) O.ne := by
  intro F H x y d e Q u hx hy q
  unfold O.ne at q
  cases h : eqD d e with
  | none => rw [h] at q; exact q.elim
  | some b =>
    rw [h] at q
    rcases eqD_some u hx hy h with ⟨s, rfl⟩ | ⟨p1, p2, vs, e1, e2, h1, rfl⟩ | ⟨p1, p2, h1, h2, s1, s2, s3, rfl⟩
    · exact .inl (.inl ⟨s, q.sc u fun _ => .bl _⟩)
    · exact .inr ⟨p1, p2, vs, e1, e2, h1, q.sc u fun _ => .bl _⟩
    · exact .inl (.inr ⟨p1, p2, h1, h2, s1, s2, s3, q.sc u fun _ => .bl _⟩)
theorem Pk.isNone {F H : Hp} {x : V} {d : D} (h : Pk K mg F H x d) : decide (x = .non) = isNon d := by
  rcases h with h | ⟨q, vs, ds, rfl, rfl, h, r⟩ | ⟨_, _, _, rfl, rfl, _⟩
  · cases h <;> rfl
  · rfl
  · rfl
theorem d_isN : OpD2 K mg (fun x y H Q => y = .non ∧ Q (.bl (decide (x = .non))) H) O.isN := by
  intro F H x y d e Q u hx hy q
  unfold O.isN at q
  split at q
  · refine ⟨hy.non, ?_⟩
    rw [hx.isNone]
    exact q.sc u fun _ => .bl _
  · exact q.elim
theorem d_notN : OpD2 K mg (fun x y H Q => y = .non ∧ Q (.bl (!decide (x = .non))) H) O.notN := by
  intro F H x y d e Q u hx hy q
  unfold O.notN at q
  split at q
  · refine ⟨hy.non, ?_⟩
    rw [hx.isNone]
    exact q.sc u fun _ => .bl _
  · exact q.elim
end
end Dx

namespace Dx
open PySem PySem.Spec PyProof.Rows L2 Hx
/-! ## further operations -/
inductive Ty where | non | bl | int | str | lst | tup | dct deriving DecidableEq
def Ty.nm : Ty → String | .non => "NoneType" | .bl => "bool" | .int => "int" | .str => "str" | .lst => "list" | .tup => "tuple" | .dct => "dict"
@[simp] def tyOf (n : String) : Option Ty := if n = "int" then some .int else if n = "bool" then some .bl else if n = "str" then some .str else if n = "list" then some .lst else if n = "tuple" then some .tup else if n = "dict" then some .dct else none
def D.tyc : D → Option Ty
  | .non => some .non
  | .bl _ => some .bl
  | .int _ => some .int
  | .str _ => some .str
  | .lst _ => some .lst
  | .scr _ => some .lst
  | .tup _ => some .tup
  | .dct _ _ => some .dct
  | _ => none
def isaB : Ty → Ty → Bool
  | .bl, .int => true
  | a, b => decide (a = b)
theorem kitB_is (a b : Ty) : kitB a.nm b.nm = some (isaB a b) := by cases a <;> cases b <;> decide +kernel
theorem tyOf_nm {n : String} {t : Ty} (h : tyOf n = some t) : n = t.nm := by
  unfold tyOf at h
  repeat' (split at h)
  all_goals first | (cases h; assumption) | cases h
@[simp] def tysOf : List D → Option (List Ty)
  | [] => some []
  | .ty n :: ds => match tyOf n, tysOf ds with | some t, some ts => some (t :: ts) | _, _ => none
  | _ => none
/-- .. or a locked dict with tuple keys -/
def TyY (K : PySem.W.Frag) (H : Hp) (x : V) (t : Value) : Prop := TyX K H x t ∨ ∃ a o kvs, x = .ref a ∧ t = .type "dict" ∧ H a = some (.frz o (.dT kvs))
theorem kit_ofY {X : Cx} {pins : List (Addr × Obj)} {σ : L2.St} {H : Hp} {s : Shared} {x : V} {u t : Value} (I : Inv X pins σ H s) (rx : RelV x u) (ty : TyY X.K H x t) : ∃ P : Heap → Prop, PySem.W.KitX X.K u t P ∧ P s.heap ∧ u ≠ .builtin "__main__.__loader__#opaque" := by
  rcases ty with ty | ⟨a, ob, kvs, rfl, rfl, ea⟩
  · exact kit_of I rx ty
  · cases (show u = Value.ref a from rx)
    obtain ⟨_, _, _, xs, _, o, es, ep, h1, h2, _⟩ := (show ObjOk X.prog X.w H s.heap a (.frz ob (.dT kvs)) from I.hok a _ ea)
    exact ⟨_, PySem.W.kitx_dict, ⟨o, h1, h2.1⟩, fun z => nomatch z⟩
def rIsY (K : PySem.W.Frag) : List V → Hp → VK → Prop := fun xs H Q => ∃ (x c : V) (t u : Value) (b : Bool), xs = [x, c] ∧ ClsV c u ∧ TyY K H x t ∧ PySem.W.kitOne K t u = some b ∧ Q (.bl b) H
def rIsTY (K : PySem.W.Frag) : List V → Hp → VK → Prop := fun xs H Q => ∃ (x : V) (tp : Addr) (cs : List V) (t : Value) (us : List Value) (b : Bool), xs = [x, .ref tp] ∧ H tp = some (.tup cs) ∧ Paired ClsV cs us ∧ TyY K H x t ∧ PySem.W.kitAny K t us = some b ∧ Q (.bl b) H
theorem call_isiY {X : Cx} : CallR X (.builtin "isinstance") (rIsY X.K) := by
  intro pins s σ H xs us Q I r h
  obtain ⟨x, c, t, u, b, rfl, k, ty, e, q⟩ := h
  obtain ⟨u1, u2, rfl, r1, r2⟩ := vals2 r
  have e2 := k.eq r2
  subst e2
  obtain ⟨P, Z, p, hx⟩ := kit_ofY I r1 ty
  exact PySem.W.kia_one Z I.kIn p e hx fun tk => ⟨.bl b, H, I.tok tk, rfl, q⟩
theorem call_isiTY {X : Cx} : CallR X (.builtin "isinstance") (rIsTY X.K) := by
  intro pins s σ H xs us Q I r h
  obtain ⟨x, tp, cs, t, ws, b, rfl, hT, k, ty, e, q⟩ := h
  obtain ⟨u1, u2, rfl, r1, r2⟩ := vals2 r
  cases (show u2 = Value.ref tp from r2)
  obtain ⟨P, Z, p, hx⟩ := kit_ofY I r1 ty
  obtain ⟨_, its, rv, o, h1, h2, n, h3⟩ := (show ObjOk X.prog X.w H s.heap tp (.tup cs) from I.hok tp _ hT)
  have e3 := ClsV.all k rv
  subst e3
  obtain ⟨oc, od, dt, sl⟩ := o
  simp only at h2 h3
  subst h2 h3
  exact PySem.W.kia_tup Z I.kIn p h1 e hx fun tk => ⟨.bl b, H, I.tok tk, rfl, q⟩
def rIsiYU (K : PySem.W.Frag) : List V → Hp → VK → Prop := fun xs H Q => rIsY K xs H Q ∨ rIsTY K xs H Q
theorem call_isiYK {X : Cx} {K : PySem.W.Frag} (hK : X.K = K) : CallR X (.builtin "isinstance") (rIsiYU K) := hK ▸ call_isiY.or call_isiTY
section
variable {K : PySem.W.Frag} {mg : Str → Option Value} {F H : Hp}
theorem tyx_rdK {a : Addr} {kvs : List (Key × V)} (h : L2.Rd H a (.dK kvs)) : TyY K H (.ref a) (.type "dict") := by
  rcases h with h | ⟨o, h⟩
  · exact .inl (.base (.dK h))
  · exact .inl (.fDict h)
theorem tyx_rdT {a : Addr} {kvs : List (List Key × V)} (h : L2.Rd H a (.dT kvs)) : TyY K H (.ref a) (.type "dict") := by
  rcases h with h | ⟨o, h⟩
  · exact .inl (.base (.dT h))
  · exact .inr ⟨a, o, kvs, rfl, rfl, h⟩
theorem Rd.tyX {x : V} {d : D} {t : Ty} (u : Up F H) (h : Rd K mg F x d) (e : d.tyc = some t) : TyY K H x (.type t.nm) := by
  cases h with
  | non => cases e; exact .inl (.base .non)
  | bl b => cases e; exact .inl (.base (.bl b))
  | int i => cases e; exact .inl (.base (.int i))
  | str s => cases e; exact .inl (.base (.str s))
  | lst h r => cases e; exact .inl (.base (.lst (u.lst h)))
  | scr h r => cases e; exact .inl (l_type (u.seq h))
  | cls _ => cases e
  | ty n => cases e
  | tup h r => cases e; exact .inl (.base (.tup (u.tup h)))
  | dK h r => cases e; exact tyx_rdK (u.rd h)
  | dT h r => cases e; exact tyx_rdT (u.rd h)
  | ins _ _ _ => cases e
theorem Pk.tyX {x : V} {d : D} {t : Ty} (u : Up F H) (h : Pk K mg F H x d) (e : d.tyc = some t) : TyY K H x (.type t.nm) := by
  rcases h with h | ⟨q, vs, ds, rfl, rfl, h, r⟩ | ⟨q, b, es, rfl, rfl, dc⟩
  · exact h.tyX u e
  · cases e; exact .inl (.base (.lst h))
  · cases e
    rcases dc with ⟨_, kvs, h, _⟩ | ⟨_, kvs, h, _⟩
    · exact .inl (.base (.dK h))
    · exact .inl (.base (.dT h))
end
/-- what a for walks of a value -/
def itemsOf : D → Option (List D)
  | .lst ds => some ds
  | .tup ds => some ds
  | .scr ds => some ds
  | .str s => some (s.cps.toList.map fun c => .str ⟨#[c]⟩)
  | _ => none
def cutD (xs : List D) (lo hi : Option Int) : List D := (xs.drop (HT.sIx xs.length 0 lo)).take (HT.sIx xs.length xs.length hi - HT.sIx xs.length 0 lo)
@[simp] def strsOf : List D → Option (List Str)
  | [] => some []
  | .str s :: ds => (strsOf ds).map fun l => s :: l
  | _ => none
@[simp] def intsOf : List D → Option (List Int)
  | [] => some []
  | .int s :: ds => (intsOf ds).map fun l => s :: l
  | _ => none
@[simp] def blsOf : List D → Option (List Bool)
  | [] => some []
  | .bl s :: ds => (blsOf ds).map fun l => s :: l
  | _ => none
namespace O
def inn : D → D → Option W
  | .str c, .str z => match c.cps.toList with | [k] => wb (decide (k ∈ z.cps.toList)) | _ => none
  | d, .lst ds => match d.flat, D.flats ds with | some v, some vs => wb (inV v vs) | _, _ => none
  | d, .tup ds => match d.flat, D.flats ds with | some v, some vs => wb (inV v vs) | _, _ => none
  | _, _ => none
def nin : D → D → Option W
  | .str c, .str z => match c.cps.toList with | [k] => wb (!decide (k ∈ z.cps.toList)) | _ => none
  | d, .lst ds => match d.flat, D.flats ds with | some v, some vs => wb (!inV v vs) | _, _ => none
  | d, .tup ds => match d.flat, D.flats ds with | some v, some vs => wb (!inV v vs) | _, _ => none
  | _, _ => none
/-- d is b, b a truth -/
def isB (b : Bool) : D → Option W
  | .bl x => wb (decide (x = b))
  | .ins _ _ => none
  | .ty _ => none
  | _ => wb false
def ix : D → D → Option W
  | .lst ds, .int i => (atI ds i).map .t
  | .tup ds, .int i => (atI ds i).map .t
  | .scr ds, .int i => (atI ds i).map .t
  | .str z, .int i => if z.length ≤ 16000000 then (atI z.cps.toList i).map fun c => .t (.str ⟨#[c]⟩) else none
  | _, _ => none
def sl (lo hi : Option Int) : D → Option W
  | .lst ds => some (.f (cutD ds lo hi))
  | .scr ds => some (.f (cutD ds lo hi))
  | .str z => if z.length ≤ 16000000 then ws (cutS z lo hi) else none
  | .tup ds => if HT.sIx ds.length 0 lo = 0 ∧ HT.sIx ds.length ds.length hi = ds.length then none else some (.t (.tup (cutD ds lo hi)))
  | _ => none
def rev : D → Option W
  | .str z => if z.length ≤ 16000000 then ws ⟨z.cps.toList.reverse.toArray⟩ else none
  | _ => none
def revL : D → Option W
  | .lst ds => some (.f ds.reverse)
  | _ => none
def len : List D → Option W
  | [.str z] => if z.length ≤ 16000000 then wi z.length else none
  | [.lst ds] => wi ds.length
  | [.tup ds] => wi ds.length
  | [.scr ds] => wi ds.length
  | _ => none
@[simp] def maxL : Int → List Int → Int
  | i, [] => i
  | i, j :: js => maxL (Max.max i j) js
@[simp] def minL : Int → List Int → Int
  | i, [] => i
  | i, j :: js => minL (Min.min i j) js
def hdI (f : Int → List Int → Int) : Option (List Int) → Option W
  | some (i :: is) => wi (f i is)
  | _ => none
def max : List D → Option W
  | [.int i, .int j] => wi (Max.max i j)
  | [.lst ds] => hdI maxL (intsOf ds)
  | _ => none
def min : List D → Option W
  | [.int i, .int j] => wi (Min.min i j)
  | [.lst ds] => hdI minL (intsOf ds)
  | _ => none
def all : List D → Option W
  | [.lst ds] => (blsOf ds).map fun bs => .t (.bl (bs.all id))
  | _ => none
def any : List D → Option W
  | [.lst ds] => (blsOf ds).map fun bs => .t (.bl (bs.any id))
  | _ => none
def sum : List D → Option W
  | [.lst ds] => (intsOf ds).map fun ns => .t (.int ns.sum)
  | _ => none
def isa : List D → Option W
  | [d, .ty n] => match d.tyc, tyOf n with | some s, some t => wb (isaB s t) | _, _ => none
  | [d, .tup ts] => match d.tyc, tysOf ts with | some s, some ts => wb (ts.any (isaB s)) | _, _ => none
  | _ => none
def int : List D → Option W
  | [.int i] => wi i
  | [.bl b] => wi (if b then 1 else 0)
  | [.str s] => if s.length ≤ 640 then (PySem.intText? s).map fun n => .t (.int n) else none
  | _ => none
def shownOk (d : PyData) : Bool := d.showable && decide (d.depth ≤ 60) && decide (d.shown.length ≤ 16777216)
def repr : List D → Option W
  | [d] => if d.plainE = true ∧ shownOk d.py = true then ws d.py.shown else none
  | _ => none
def list : List D → Option W
  | [.lst ds] => some (.f ds)
  | [.tup ds] => some (.f ds)
  | [.scr ds] => some (.f ds)
  | [.str z] => if z.length ≤ 1000000 then some (.f (z.cps.toList.map fun c => .str ⟨#[c]⟩)) else none
  | _ => none
def tuple : List D → Option W
  | [.lst ds] => some (.t (.tup ds))
  | [.scr ds] => some (.t (.tup ds))
  | [.tup ds] => some (.t (.tup ds))
  | _ => none
def swapcase : D → List D → Option W
  | .str z, _ => if z.length ≤ 5592405 then ws (Txt.swapcase z) else none
  | _, _ => none
def upper : D → List D → Option W
  | .str z, _ => if z.length ≤ 5592405 then ws (Txt.upper z) else none
  | _, _ => none
def lower : D → List D → Option W
  | .str z, _ => if z.length ≤ 5592405 then ws (Txt.lower z) else none
  | _, _ => none
def join : D → List D → Option W
  | .str z, [.lst ds] => match strsOf ds with
    | some l => if (l.map (·.length)).sum + l.length * z.length ≤ 16000000 then ws (Txt.join z l) else none
    | none => none
  | _, _ => none
def index : D → List D → Option W
  | .str z, [.str y] => match Builtin.Str.occurrences z y 0 z.length 1 with
    | i :: _ => wi (i : Nat)
    | [] => none
  | _, _ => none
end O
/-! ### repr of data, empty dicts among it -/
def rReprW (K : PySem.W.Frag) (mg : Str → Option Value) : List V → Hp → VK → Prop := fun xs H Q => ∃ (x : V) (F : Hp) (d : D), xs = [x] ∧ Up F H ∧ Rd K mg F x d ∧ d.plainE = true ∧ d.py.showable = true ∧ d.py.depth ≤ 60 ∧ d.py.shown.length ≤ sizeLine ∧ Q (.str d.py.shown) H
section
variable {prog : Program} {w : World} {h₀ : Heap} {A : Around} {E : Value → Shared → Prop} {s : Shared} {Q : Value → Shared → Prop} {u : Value} {as : List Addr}
theorem callRepr_lst {ds : List D} (k1 : ∀ b o, h₀.get? b = some o → s.heap.get? b = some o) (k2 : ∀ o, h₀.get? sysModules = some o → o.cls ≠ .type "dict") (r : Reads h₀ u (D.lst ds).py as) (p : (D.lst ds).plainE = true) (hs : (D.lst ds).py.showable = true)
    (hg : A.guards = some []) (hu : A.units + ((D.lst ds).py.depth + 1) < cLine) (hz : (D.lst ds).py.shown.length ≤ sizeLine) (hQ : ∀ h' v tk, (∀ b o, s.heap.get? b = some o → h'.get? b = some o) → Q (.str (D.lst ds).py.shown v) { s with heap := h', toks := tk }) : wpAny (model prog w) A (call (.builtin "repr") [u]) Q E s := by
  rw [D.py] at r hs hz hu hQ
  rw [PyData.shown] at hz hQ
  have r' := r
  cases r with
  | @list a o vs n _ _ h1 h2 h3 h4 =>
    obtain ⟨bs, hb, hk⟩ := reprsE (prog := prog) (w := w) k2 h4 (by rw [D.plainE] at p; exact p) (by rw [PyData.showable] at hs; exact hs) (fun t ht => Nat.le_trans (listText_mem_le ht) hz)
    have up : PyData.depthAll (D.pys ds) < (PyData.list (D.pys ds)).depth := by rw [PyData.depth]; omega
    have na : a ∉ bs := not_mem_of_deeper r' up hb
    rw [PyData.depth] at hu
    refine call_repr_slot (by omega) ⟨o, k1 _ _ h1, h2⟩ F.slot_list_repr.toG ?_
    obtain ⟨l⟩ := vs
    cases l with
    | nil =>
      have e : D.pys ds = [] := by
        have h := h4
        generalize D.pys ds = xs at h
        cases (show ReadsAll h₀ [] xs _ from h)
        rfl
      rw [e] at hQ
      simp only [PyData.shownAll, listText_nil] at hQ
      exact call_list_repr_empty ⟨o, k1 _ _ h1, h2⟩ (k1 _ _ h1) h3 ⟨_, _, rfl, hQ s.heap _ _ fun _ _ e => e⟩
    | cons x l => exact call_list_reprK h1 h2 h3 na (by simpa using hk.length_eq) (fun i y e => hk.item i y (by simpa using e)) hg (fun b _ => Clear.nil b) (by show A.units + 1 + _ < cLine; omega) k1 (fun h' v tk kp => ⟨_, _, rfl, hQ h' v tk kp⟩) hz
theorem callRepr_tup {ds : List D} (k1 : ∀ b o, h₀.get? b = some o → s.heap.get? b = some o) (k2 : ∀ o, h₀.get? sysModules = some o → o.cls ≠ .type "dict") (r : Reads h₀ u (D.tup ds).py as) (p : (D.tup ds).plainE = true) (hs : (D.tup ds).py.showable = true)
    (hg : A.guards = some []) (hu : A.units + ((D.tup ds).py.depth + 1) < cLine) (hz : (D.tup ds).py.shown.length ≤ sizeLine) (hQ : ∀ h' v tk, (∀ b o, s.heap.get? b = some o → h'.get? b = some o) → Q (.str (D.tup ds).py.shown v) { s with heap := h', toks := tk }) : wpAny (model prog w) A (call (.builtin "repr") [u]) Q E s := by
  rw [D.py] at r hs hz hu hQ
  rw [PyData.shown] at hz hQ
  have r' := r
  cases r with
  | @tuple a o vs n _ _ h1 h2 h3 h4 =>
    obtain ⟨bs, hb, hk⟩ := reprsE (prog := prog) (w := w) k2 h4 (by rw [D.plainE] at p; exact p) (by rw [PyData.showable] at hs; exact hs) (fun t ht => Nat.le_trans (tupleText_mem_le ht) hz)
    have up : PyData.depthAll (D.pys ds) < (PyData.tuple (D.pys ds)).depth := by rw [PyData.depth]; omega
    rw [PyData.depth] at hu
    refine call_repr_slot (by omega) ⟨o, k1 _ _ h1, h2⟩ F.slot_tuple_repr ?_
    exact call_tuple_reprK h1 h2 h3 (not_mem_of_deeper r' up hb) hk hg (fun b _ => Clear.nil b) (by show A.units + 1 + _ < cLine; omega) k1 (fun h' v tk kp => ⟨_, _, rfl, hQ h' v tk kp⟩) hz
theorem callRepr_dct {bb : Bool} {es : List (D × D)} (k1 : ∀ b o, h₀.get? b = some o → s.heap.get? b = some o) (k2 : ∀ o, h₀.get? sysModules = some o → o.cls ≠ .type "dict") (r : Reads h₀ u (D.dct bb es).py as) (p : (D.dct bb es).plainE = true) (hs : (D.dct bb es).py.showable = true)
    (hg : A.guards = some []) (hu : A.units + ((D.dct bb es).py.depth + 1) < cLine) (hz : (D.dct bb es).py.shown.length ≤ sizeLine) (hQ : ∀ h' v tk, (∀ b o, s.heap.get? b = some o → h'.get? b = some o) → Q (.str (D.dct bb es).py.shown v) { s with heap := h', toks := tk }) : wpAny (model prog w) A (call (.builtin "repr") [u]) Q E s := by
  rw [D.py] at r hs hz hu hQ
  cases r with
  | @dict a o es n _ _ _ h1 h2 h3 h4 h5 =>
    refine repr_of_reads' (Reads.dict h1 h2 h3 h4 h5) hs (fun _ m => ?_) hg hu k1 hQ hz
    cases h4' : es.toList with
    | cons _ _ => rw [h4'] at h4; cases h4
    | nil =>
      rw [h4'] at h4 h5
      cases h4
      cases h5
      have e : sysModules = a := by simpa using m
      exact k2 o (by rw [e]; exact h1) h2
end
theorem call_reprW {X : Cx} {K : PySem.W.Frag} {mg : Str → Option Value} (hK : X.K = K) (gd : X.A.guards = some []) (un : X.A.units + 64 < cLine) : CallR X (.builtin "repr") (rReprW K mg) := by
  subst hK
  intro pins s σ H xs us Q I r h
  obtain ⟨x, F, d, rfl, su, hd, pl, sh, dp, sz, q⟩ := h
  obtain ⟨u, rfl, ru⟩ := vals1 r
  obtain ⟨h₀, k1, k2, k3⟩ := noDictSys s.heap
  obtain ⟨as, rd⟩ := Rd.reads k3 I su hd ru pl
  cases hd with
  | non => cases (show u = Value.none from ru); exact PySem.P.repr_of_none ⟨.str _, H, I.tok _, ⟨_, rfl⟩, q⟩
  | bl b => cases (show u = Value.bool b from ru); exact PySem.P.repr_of_bool ⟨.str _, H, I.tok _, ⟨_, rfl⟩, q⟩
  | int i =>
    obtain ⟨t, rfl⟩ := (show ∃ t, u = Value.int i t from ru)
    exact PySem.P.repr_of_int (of_decide_eq_true sh) ⟨.str _, H, I.tok _, ⟨_, rfl⟩, q⟩
  | str z =>
    obtain ⟨t, rfl⟩ := (show ∃ t, u = Value.str z t from ru)
    exact PySem.P.repr_of_str (hsz := sz) ⟨.str _, H, I.tok _, ⟨_, rfl⟩, q⟩
  | lst h r => exact callRepr_lst k1 k2 rd pl sh gd (by omega) sz fun h' v tk kp => ⟨.str _, H, I.kept (t' := tk) kp, ⟨_, rfl⟩, q⟩
  | tup h r => exact callRepr_tup k1 k2 rd pl sh gd (by omega) sz fun h' v tk kp => ⟨.str _, H, I.kept (t' := tk) kp, ⟨_, rfl⟩, q⟩
  | scr _ _ => simp [D.plainE] at pl
  | dK _ r => exact callRepr_dct k1 k2 rd pl sh gd (by omega) sz fun h' v tk kp => ⟨.str _, H, I.kept (t' := tk) kp, ⟨_, rfl⟩, q⟩
  | dT _ r => exact callRepr_dct k1 k2 rd pl sh gd (by omega) sz fun h' v tk kp => ⟨.str _, H, I.kept (t' := tk) kp, ⟨_, rfl⟩, q⟩
  | ins _ _ _ => simp [D.plainE] at pl
  | ty _ => simp [D.plainE] at pl
  | cls _ => simp [D.plainE] at pl
section
variable {K : PySem.W.Frag} {mg : Str → Option Value} {F H : Hp}
theorem RdL.strs : ∀ {vs : List V} {ds : List D} {l : List Str}, RdL K mg F vs ds → strsOf ds = some l → vs = l.map V.str
  | _, _, _, .nil, e => by cases e; rfl
  | _, _, _, .cons (d := d) (ds := ds) h r, e => by
    cases d with
    | str s =>
      rw [strsOf] at e
      cases e2 : strsOf ds with
      | none => rw [e2] at e; cases e
      | some l => rw [e2] at e; cases e; rw [h.inv_str, RdL.strs r e2]; rfl
    | _ => cases e
theorem RdL.ints : ∀ {vs : List V} {ds : List D} {l : List Int}, RdL K mg F vs ds → intsOf ds = some l → vs = l.map V.int
  | _, _, _, .nil, e => by cases e; rfl
  | _, _, _, .cons (d := d) (ds := ds) h r, e => by
    cases d with
    | int s =>
      rw [intsOf] at e
      cases e2 : intsOf ds with
      | none => rw [e2] at e; cases e
      | some l => rw [e2] at e; cases e; rw [h.inv_int, RdL.ints r e2]; rfl
    | _ => cases e
theorem RdL.bls : ∀ {vs : List V} {ds : List D} {l : List Bool}, RdL K mg F vs ds → blsOf ds = some l → vs = l.map V.bl
  | _, _, _, .nil, e => by cases e; rfl
  | _, _, _, .cons (d := d) (ds := ds) h r, e => by
    cases d with
    | bl s =>
      rw [blsOf] at e
      cases e2 : blsOf ds with
      | none => rw [e2] at e; cases e
      | some l => rw [e2] at e; cases e; rw [h.inv_bl, RdL.bls r e2]; rfl
    | _ => cases e
theorem atI_rd {vs : List V} {ds : List D} {i : Int} {d : D} (r : RdL K mg F vs ds) (e : atI ds i = some d) : ∃ v, atI vs i = some v ∧ Rd K mg F v d := by
  unfold atI at e ⊢
  rw [r.len]
  cases q : ixN ds.length i with
  | none => rw [q] at e; cases e
  | some j =>
    rw [q] at e
    exact r.get e
theorem cut_rd {vs : List V} {ds : List D} {lo hi : Option Int} (r : RdL K mg F vs ds) : RdL K mg F (cutV vs lo hi) (cutD ds lo hi) := by
  unfold cutV cutD
  rw [r.len]
  exact (r.dropD _).takeD _
def rInU (K : PySem.W.Frag) (neg : Bool) : R2 := fun x y H Q => rIn K neg x y H Q ∨ ∃ (c : Nat) (z : Str), x = .str ⟨#[c]⟩ ∧ y = .str z ∧ Q (.bl (if neg then !decide (c ∈ z.cps.toList) else decide (c ∈ z.cps.toList))) H
theorem op_innU {X : Cx} (hK : X.K = K) : OpR X (compareOp .In) (rInU K false) := by
  subst hK
  exact op_in_seq.or fun pins s σ H x y v u Q I rx ry h => op_in_sign pins s σ H x y v u Q I rx ry h
theorem op_ninU {X : Cx} (hK : X.K = K) : OpR X (compareOp .NotIn) (rInU K true) := by
  subst hK
  exact op_notIn_seq.or fun pins s σ H x y v u Q I rx ry h => op_notIn_sign pins s σ H x y v u Q I rx ry h
theorem sign_of {c : Str} {k : Nat} (h : c.cps.toList = [k]) : c = ⟨#[k]⟩ := by
  cases c with
  | mk a => congr 1; exact Array.toList_inj.mp h
theorem d_inn : OpD2 K mg (rInU K false) O.inn := by
  intro F H x y d e Q u hx hy q
  unfold O.inn at q
  split at q
  · cases hx.str; cases hy.str
    split at q
    · rename_i k hk
      have := sign_of hk
      subst this
      exact .inr ⟨k, _, rfl, rfl, q.sc u fun _ => .bl _⟩
    · exact q.elim
  · split at q
    · rename_i v vs e1 e2
      obtain ⟨a, xs, rfl, h1, r1⟩ := hy.lst u
      obtain ⟨rfl, f1⟩ := hx.flat e1
      obtain ⟨rfl, f2⟩ := r1.flat e2
      exact .inl ⟨a, xs, rfl, .inl (sq_of h1), f1, f2, q.sc u fun _ => .bl _⟩
    · exact q.elim
  · split at q
    · rename_i v vs e1 e2
      obtain ⟨a, xs, rfl, h1, r1⟩ := hy.tup u
      obtain ⟨rfl, f1⟩ := hx.flat e1
      obtain ⟨rfl, f2⟩ := r1.flat e2
      exact .inl ⟨a, xs, rfl, .inr (st_of h1), f1, f2, q.sc u fun _ => .bl _⟩
    · exact q.elim
  · exact q.elim
theorem d_nin : OpD2 K mg (rInU K true) O.nin := by
  intro F H x y d e Q u hx hy q
  unfold O.nin at q
  split at q
  · cases hx.str; cases hy.str
    split at q
    · rename_i k hk
      have := sign_of hk
      subst this
      exact .inr ⟨k, _, rfl, rfl, q.sc u fun _ => .bl _⟩
    · exact q.elim
  · split at q
    · rename_i v vs e1 e2
      obtain ⟨a, xs, rfl, h1, r1⟩ := hy.lst u
      obtain ⟨rfl, f1⟩ := hx.flat e1
      obtain ⟨rfl, f2⟩ := r1.flat e2
      exact .inl ⟨a, xs, rfl, .inl (sq_of h1), f1, f2, q.sc u fun _ => .bl _⟩
    · exact q.elim
  · split at q
    · rename_i v vs e1 e2
      obtain ⟨a, xs, rfl, h1, r1⟩ := hy.tup u
      obtain ⟨rfl, f1⟩ := hx.flat e1
      obtain ⟨rfl, f2⟩ := r1.flat e2
      exact .inl ⟨a, xs, rfl, .inr (st_of h1), f1, f2, q.sc u fun _ => .bl _⟩
    · exact q.elim
  · exact q.elim
theorem d_ix : OpD2 K mg (rIx K) O.ix := by
  intro F H x y d e Q u hx hy q
  unfold O.ix at q
  split at q
  · rename_i ds i
    obtain ⟨a, xs, rfl, h1, r1⟩ := hx.lst u
    cases hy.int
    cases e1 : atI ds i with
    | none => rw [e1] at q; exact q.elim
    | some d1 =>
      rw [e1] at q
      obtain ⟨v, ev, rv⟩ := atI_rd r1 e1
      exact g_ixL (sq_of h1) ev (q.rd u rv)
  · rename_i ds i
    obtain ⟨a, xs, rfl, h1, r1⟩ := hx.tup u
    cases hy.int
    cases e1 : atI ds i with
    | none => rw [e1] at q; exact q.elim
    | some d1 =>
      rw [e1] at q
      obtain ⟨v, ev, rv⟩ := atI_rd r1 e1
      exact g_ixT (st_of h1) ev (q.rd u rv)
  · rename_i ds i
    obtain ⟨a, xs, rfl, h1, r1⟩ := hx.scr u
    cases hy.int
    cases e1 : atI ds i with
    | none => rw [e1] at q; exact q.elim
    | some d1 =>
      rw [e1] at q
      obtain ⟨v, ev, rv⟩ := atI_rd r1 e1
      exact g_ixL h1 ev (q.rd u rv)
  · rename_i z i
    cases hx.str; cases hy.int
    split at q
    · cases e1 : atI z.cps.toList i with
      | none => rw [e1] at q; exact q.elim
      | some d1 => rw [e1] at q; exact g_ixS (by rw [sizeLine_eq]; omega) e1 (q.sc u fun _ => .str _)
    · exact q.elim
  · exact q.elim
def rSlUT (K : PySem.W.Frag) : V → Option Int → Option Int → Hp → VK → Prop := fun x lo hi H Q => rSlU K x lo hi H Q ∨ rSlT K x lo hi H Q
theorem sl_UT {X : Cx} (hK : X.K = K) : SlR X (rSlUT K) := by subst hK; exact sl_U.or sl_tup
theorem d_sl {lo hi : Option Int} : OpD1 K mg (fun x H Q => rSlUT K x lo hi H Q) (O.sl lo hi) := by
  intro F H x d Q u hx q
  unfold O.sl at q
  split at q
  · obtain ⟨a, xs, rfl, h1, r1⟩ := hx.lst u
    exact .inl (g_slL (sq_of h1) fun p np => q p _ np (cut_rd r1))
  · obtain ⟨a, xs, rfl, h1, r1⟩ := hx.scr u
    exact .inl (g_slL h1 fun p np => q p _ np (cut_rd r1))
  · cases hx.str
    split at q
    · exact .inl (g_slS (by rw [sizeLine_eq]; omega) (q.sc u fun _ => .str _))
    · exact q.elim
  · obtain ⟨a, xs, rfl, h1, r1⟩ := hx.tup u
    split at q
    · exact q.elim
    · rename_i n
      exact .inr ⟨a, xs, rfl, st_of h1, by rw [r1.len]; exact n, fun p np => q.tupN u np (cut_rd r1)⟩
  · exact q.elim
theorem d_len : CaD K mg (rLenU K) O.len := by
  intro F H xs ds Q u r q
  unfold O.len at q
  split at q
  · match xs, r with
    | [x], .cons hx .nil =>
      cases hx.str
      split at q
      · exact g_lenS (by rw [sizeLine_eq]; omega) (q.sc u fun _ => .int _)
      · exact q.elim
  · match xs, r with
    | [x], .cons hx .nil =>
      obtain ⟨a, vs, rfl, h1, r1⟩ := hx.lst u
      exact g_lenL (sq_of h1) (by rw [r1.len]; exact q.sc u fun _ => .int _)
  · match xs, r with
    | [x], .cons hx .nil =>
      obtain ⟨a, vs, rfl, h1, r1⟩ := hx.tup u
      exact g_lenT (st_of h1) (by rw [r1.len]; exact q.sc u fun _ => .int _)
  · match xs, r with
    | [x], .cons hx .nil =>
      obtain ⟨a, vs, rfl, h1, r1⟩ := hx.scr u
      exact g_lenL h1 (by rw [r1.len]; exact q.sc u fun _ => .int _)
  · exact q.elim
theorem maxL_ok : ∀ (i : Int) (is : List Int), O.maxL i is ∈ i :: is ∧ ∀ y ∈ i :: is, y ≤ O.maxL i is
  | i, [] => ⟨List.mem_cons_self, fun y h => by rw [List.mem_singleton.mp h]; exact Int.le_refl _⟩
  | i, j :: js => by
    obtain ⟨h1, h2⟩ := maxL_ok (Max.max i j) js
    rw [O.maxL]
    refine ⟨?_, fun y hy => ?_⟩
    · rcases List.mem_cons.mp h1 with e | h
      · rw [e]
        by_cases c : i ≤ j
        · rw [Int.max_eq_right c]; simp
        · rw [Int.max_eq_left (by omega)]; simp
      · simp [h]
    · have h0 := h2 _ List.mem_cons_self
      rcases List.mem_cons.mp hy with rfl | hy
      · exact Int.le_trans (Int.le_max_left _ _) h0
      · rcases List.mem_cons.mp hy with rfl | hy
        · exact Int.le_trans (Int.le_max_right _ _) h0
        · exact h2 y (List.mem_cons_of_mem _ hy)
theorem minL_ok : ∀ (i : Int) (is : List Int), O.minL i is ∈ i :: is ∧ ∀ y ∈ i :: is, O.minL i is ≤ y
  | i, [] => ⟨List.mem_cons_self, fun y h => by rw [List.mem_singleton.mp h]; exact Int.le_refl _⟩
  | i, j :: js => by
    obtain ⟨h1, h2⟩ := minL_ok (Min.min i j) js
    rw [O.minL]
    refine ⟨?_, fun y hy => ?_⟩
    · rcases List.mem_cons.mp h1 with e | h
      · rw [e]
        by_cases c : i ≤ j
        · rw [Int.min_eq_left c]; simp
        · rw [Int.min_eq_right (by omega)]; simp
      · simp [h]
    · have h0 := h2 _ List.mem_cons_self
      rcases List.mem_cons.mp hy with rfl | hy
      · exact Int.le_trans h0 (Int.min_le_left _ _)
      · rcases List.mem_cons.mp hy with rfl | hy
        · exact Int.le_trans h0 (Int.min_le_right _ _)
        · exact h2 y (List.mem_cons_of_mem _ hy)
theorem d_max : CaD K mg (rMaxU K) O.max := by
  intro F H xs ds Q u r q
  unfold O.max at q
  split at q
  · match xs, r with
    | [x, y], .cons hx (.cons hy .nil) => cases hx.int; cases hy.int; exact g_max2 (q.sc u fun _ => .int _)
  · rename_i ds
    match xs, r with
    | [x], .cons hx .nil =>
      obtain ⟨a, vs, rfl, h1, r1⟩ := hx.lst u
      cases e : intsOf ds with
      | none => rw [e] at q; exact q.elim
      | some bs =>
        rw [e] at q
        rw [r1.ints e] at h1
        cases bs with
        | nil => exact q.elim
        | cons i is =>
          refine .inr ⟨a, i :: is, rfl, sq_of h1, by simp, fun m hm hy => ?_⟩
          have z : m = O.maxL i is := Int.le_antisymm ((maxL_ok i is).2 m hm) (hy _ (maxL_ok i is).1)
          rw [z]
          exact q.sc u fun _ => .int _
  · exact q.elim
theorem d_min : CaD K mg (rMinU K) O.min := by
  intro F H xs ds Q u r q
  unfold O.min at q
  split at q
  · match xs, r with
    | [x, y], .cons hx (.cons hy .nil) => cases hx.int; cases hy.int; exact g_min2 (q.sc u fun _ => .int _)
  · rename_i ds
    match xs, r with
    | [x], .cons hx .nil =>
      obtain ⟨a, vs, rfl, h1, r1⟩ := hx.lst u
      cases e : intsOf ds with
      | none => rw [e] at q; exact q.elim
      | some bs =>
        rw [e] at q
        rw [r1.ints e] at h1
        cases bs with
        | nil => exact q.elim
        | cons i is =>
          refine .inr ⟨a, i :: is, rfl, sq_of h1, by simp, fun m hm hy => ?_⟩
          have z : m = O.minL i is := Int.le_antisymm (hy _ (minL_ok i is).1) ((minL_ok i is).2 m hm)
          rw [z]
          exact q.sc u fun _ => .int _
  · exact q.elim
theorem d_all : CaD K mg (rAll K) O.all := by
  intro F H xs ds Q u r q
  unfold O.all at q
  split at q
  · rename_i ds
    match xs, r with
    | [x], .cons hx .nil =>
      obtain ⟨a, vs, rfl, h1, r1⟩ := hx.lst u
      cases e : blsOf ds with
      | none => rw [e] at q; exact q.elim
      | some bs => rw [e] at q; rw [r1.bls e] at h1; exact g_all (sq_of h1) (q.sc u fun _ => .bl _)
  · exact q.elim
theorem d_any : CaD K mg (rAny K) O.any := by
  intro F H xs ds Q u r q
  unfold O.any at q
  split at q
  · rename_i ds
    match xs, r with
    | [x], .cons hx .nil =>
      obtain ⟨a, vs, rfl, h1, r1⟩ := hx.lst u
      cases e : blsOf ds with
      | none => rw [e] at q; exact q.elim
      | some bs => rw [e] at q; rw [r1.bls e] at h1; exact g_any (sq_of h1) (q.sc u fun _ => .bl _)
  · exact q.elim
theorem d_sum : CaD K mg (rSum K) O.sum := by
  intro F H xs ds Q u r q
  unfold O.sum at q
  split at q
  · rename_i ds
    match xs, r with
    | [x], .cons hx .nil =>
      obtain ⟨a, vs, rfl, h1, r1⟩ := hx.lst u
      cases e : intsOf ds with
      | none => rw [e] at q; exact q.elim
      | some bs => rw [e] at q; rw [r1.ints e] at h1; exact ⟨a, bs, rfl, sq_of h1, q.sc u fun _ => .int _⟩
  · exact q.elim
theorem tys_rd {F : Hp} : ∀ {cs : List V} {ts : List D} {l : List Ty}, RdL K mg F cs ts → tysOf ts = some l → Paired ClsV cs (l.map fun t => .type t.nm)
  | _, _, _, .nil, e => by cases e; exact .nil
  | _, _, _, .cons (d := d) (ds := ds) h r, e => by
    cases d with
    | ty n =>
      rw [tysOf] at e
      cases e1 : tyOf n with
      | none => rw [e1] at e; cases e
      | some t =>
        cases e2 : tysOf ds with
        | none => rw [e1, e2] at e; cases e
        | some l =>
          rw [e1, e2] at e
          cases e
          cases h
          rw [tyOf_nm e1]
          exact .cons (.ty _) (tys_rd r e2)
    | _ => cases e
theorem kitAny_is {s : Ty} : ∀ (ts : List Ty), PySem.W.kitAny K (.type s.nm) (ts.map fun t => .type t.nm) = some (ts.any (isaB s))
  | [] => rfl
  | t :: ts => by
    rw [List.map_cons, List.any_cons]
    refine kitAny_cons (kit_ty (kitB_is s t)) (fun h => ?_) fun h => ?_
    · rw [h, Bool.false_or]; exact kitAny_is ts
    · rw [h]; rfl
theorem d_isa : CaD K mg (rIsiYU K) O.isa := by
  intro F H xs ds Q u r q
  unfold O.isa at q
  split at q
  · split at q
    · rename_i s t e1 e2
      match xs, r with
      | [x, y], .cons hx (.cons hy .nil) =>
        cases hy.ty
        rw [tyOf_nm e2]
        exact .inl ⟨x, _, _, _, _, rfl, .ty _, hx.tyX u e1, kit_ty (kitB_is s t), q.sc u fun _ => .bl _⟩
    · exact q.elim
  · split at q
    · rename_i s ts e1 e2
      match xs, r with
      | [x, y], .cons hx (.cons hy .nil) =>
        obtain ⟨a, vs, rfl, h1, r1⟩ := hy.tup u
        exact .inr ⟨x, a, vs, _, _, _, rfl, h1, tys_rd r1 e2, hx.tyX u e1, kitAny_is ts, q.sc u fun _ => .bl _⟩
    · exact q.elim
  · exact q.elim
theorem d_int : CaD K mg rIntU O.int := by
  intro F H xs ds Q u r q
  unfold O.int at q
  split at q
  · match xs, r with
    | [x], .cons hx .nil => cases hx.int; exact g_intI (q.sc u fun _ => .int _)
  · match xs, r with
    | [x], .cons hx .nil => cases hx.bl; exact g_intBU (q.sc u fun _ => .int _)
  · rename_i s
    match xs, r with
    | [x], .cons hx .nil =>
      cases hx.str
      split at q
      · cases e : PySem.intText? s with
        | none => rw [e] at q; exact q.elim
        | some n => rw [e] at q; exact g_intS e (by assumption) (q.sc u fun _ => .int _)
      · exact q.elim
  · exact q.elim
theorem d_repr : CaD K mg (rReprW K mg) O.repr := by
  intro F H xs ds Q u r q
  unfold O.repr at q
  split at q
  · rename_i d
    match xs, r with
    | [x], .cons hx .nil =>
      split at q
      · rename_i c
        obtain ⟨c1, c2⟩ := c
        unfold O.shownOk at c2
        simp only [Bool.and_eq_true, decide_eq_true_eq] at c2
        have q1 : Q (.str d.py.shown) H := q.sc u fun _ => .str _
        have ff : ∃ F', Up F' H ∧ Rd K mg F' x d := by
          rcases hx with h | ⟨p, vs, es, rfl, rfl, h, r⟩ | ⟨p, b, es, rfl, rfl, dc⟩
          · exact ⟨F, u, h⟩
          · have z : ∀ q, q = p ∧ F q = none → F q = none := fun q h => h.2
            refine ⟨fzH F H fun q => q = p ∧ F q = none, fun b o e => ?_, ?_⟩
            · by_cases y : b = p ∧ F b = none
              · rw [fzH_in (S := fun q => q = p ∧ F q = none) y] at e; exact .inl e
              · rw [fzH_out (S := fun q => q = p ∧ F q = none) y] at e; exact u b o e
            · refine .lst (vs := vs) ?_ (r.up (fzH_same z))
              by_cases n : F p = none
              · rw [fzH_in (S := fun q => q = p ∧ F q = none) ⟨rfl, n⟩]; exact h
              · rw [fzH_out (S := fun q => q = p ∧ F q = none) fun y => n y.2]
                cases e : F p with
                | none => exact absurd e n
                | some o =>
                  rcases u _ _ e with y | ⟨d, od, y⟩
                  · rw [h] at y; exact y.symm
                  · rw [h] at y; cases y
          · cases es with
            | cons _ _ => simp [D.plainE] at c1
            | nil =>
              have z : ∀ q, q = p ∧ F q = none → F q = none := fun q h => h.2
              refine ⟨fzH F H fun q => q = p ∧ F q = none, fun b o e => ?_, ?_⟩
              · by_cases y : b = p ∧ F b = none
                · rw [fzH_in (S := fun q => q = p ∧ F q = none) y] at e; exact .inl e
                · rw [fzH_out (S := fun q => q = p ∧ F q = none) y] at e; exact u b o e
              · have at_ : ∀ o, H p = some o → (∀ od u, o ≠ .frz od u) → fzH F H (fun q => q = p ∧ F q = none) p = some o := fun o h nf => by
                  by_cases n : F p = none
                  · rw [fzH_in (S := fun q => q = p ∧ F q = none) ⟨rfl, n⟩]; exact h
                  · rw [fzH_out (S := fun q => q = p ∧ F q = none) fun y => n y.2]
                    cases e : F p with
                    | none => exact absurd e n
                    | some o' =>
                      rcases u _ _ e with y | ⟨d, od, y⟩
                      · rw [h] at y; exact y.symm
                      · rw [h] at y; cases y; exact absurd rfl (nf _ _)
                rcases dc with ⟨rfl, kvs, h, r⟩ | ⟨rfl, kvs, h, r⟩
                · cases r; exact .dK (at_ _ h fun _ _ => nofun) .nil
                · cases r; exact .dT (at_ _ h fun _ _ => nofun) .nil
        obtain ⟨F', u', r'⟩ := ff
        exact ⟨x, F', d, rfl, u', r', c1, c2.1.1, c2.1.2, by rw [sizeLine_eq]; exact c2.2, q1⟩
      · exact q.elim
  · exact q.elim
theorem d_list : CaD K mg (rListV K) O.list := by
  intro F H xs ds Q u r q
  unfold O.list at q
  split at q
  · match xs, r with
    | [x], .cons hx .nil =>
      obtain ⟨a, vs, rfl, h1, r1⟩ := hx.lst u
      exact g_listSq (.inl (sq_of h1)) fun p np => q p _ np r1
  · match xs, r with
    | [x], .cons hx .nil =>
      obtain ⟨a, vs, rfl, h1, r1⟩ := hx.tup u
      exact g_listSq (.inr (st_of h1)) fun p np => q p _ np r1
  · match xs, r with
    | [x], .cons hx .nil =>
      obtain ⟨a, vs, rfl, h1, r1⟩ := hx.scr u
      exact g_listSq (.inl h1) fun p np => q p _ np r1
  · match xs, r with
    | [x], .cons hx .nil =>
      cases hx.str
      split at q
      · refine g_listS (by assumption) fun p np => q p _ np ?_
        have key : ∀ l : List Nat, RdL K mg F (l.map fun c => V.str ⟨#[c]⟩) (l.map fun c => D.str ⟨#[c]⟩) := fun l => by
         induction l with
         | nil => exact .nil
         | cons c l ih => exact .cons (.str _) ih
        exact key _
      · exact q.elim
  · exact q.elim
theorem d_tuple : CaD K mg (fun xs H Q => ∃ p ys, xs = [.ref p] ∧ ((SqL K H p ys ∧ ∀ l, H l = none → Q (.ref l) (upd H l (.tup ys))) ∨ (SqT K H p ys ∧ Q (.ref p) H))) O.tuple := by
  intro F H xs ds Q u r q
  unfold O.tuple at q
  split at q
  · match xs, r with
    | [x], .cons hx .nil =>
      obtain ⟨a, vs, rfl, h1, r1⟩ := hx.lst u
      exact ⟨a, vs, rfl, .inl ⟨sq_of h1, fun p np => q.tupN u np r1⟩⟩
  · match xs, r with
    | [x], .cons hx .nil =>
      obtain ⟨a, vs, rfl, h1, r1⟩ := hx.scr u
      exact ⟨a, vs, rfl, .inl ⟨h1, fun p np => q.tupN u np r1⟩⟩
  · match xs, r with
    | [x], .cons hx .nil =>
      rcases hx with h | ⟨_, _, _, _, e, _⟩ | ⟨_, _, _, _, e, _⟩
      · obtain ⟨a, vs, rfl, h1, r1⟩ := h.inv_tup
        exact ⟨a, vs, rfl, .inr ⟨st_of (u.tup h1), q.rd u h⟩⟩
      · cases e
      · cases e
  · exact q.elim
/-! methods of texts -/
theorem d_swapcase : MtD K mg (fun x xs H Q => ∃ a, x = .str a ∧ xs = [] ∧ a.length ≤ 5592405 ∧ Q (.str (Txt.swapcase a)) H) (fun d es => match es with | [] => O.swapcase d es | _ => none) := by
  intro F H x xs d ds Q u hx r q
  cases r with
  | cons _ _ => exact q.elim
  | nil =>
    dsimp only [O.swapcase] at q
    split at q
    · cases hx.str
      split at q
      · exact ⟨_, rfl, rfl, by assumption, q.sc u fun _ => .str _⟩
      · exact q.elim
    · exact q.elim
theorem d_upper : MtD K mg (fun x xs H Q => ∃ a, x = .str a ∧ xs = [] ∧ a.length ≤ 5592405 ∧ Q (.str (Txt.upper a)) H) (fun d es => match es with | [] => O.upper d es | _ => none) := by
  intro F H x xs d ds Q u hx r q
  cases r with
  | cons _ _ => exact q.elim
  | nil =>
    dsimp only [O.upper] at q
    split at q
    · cases hx.str
      split at q
      · exact ⟨_, rfl, rfl, by assumption, q.sc u fun _ => .str _⟩
      · exact q.elim
    · exact q.elim
theorem d_lower : MtD K mg (fun x xs H Q => ∃ a, x = .str a ∧ xs = [] ∧ a.length ≤ 5592405 ∧ Q (.str (Txt.lower a)) H) (fun d es => match es with | [] => O.lower d es | _ => none) := by
  intro F H x xs d ds Q u hx r q
  cases r with
  | cons _ _ => exact q.elim
  | nil =>
    dsimp only [O.lower] at q
    split at q
    · cases hx.str
      split at q
      · exact ⟨_, rfl, rfl, by assumption, q.sc u fun _ => .str _⟩
      · exact q.elim
    · exact q.elim
theorem d_join : MtD K mg (rJoin K) O.join := by
  intro F H x xs d ds Q u hx r q
  unfold O.join at q
  split at q
  · cases hx.str
    split at q
    · rename_i l e
      split at q
      · match xs, r with
        | [y], .cons hy .nil =>
          obtain ⟨a, vs, rfl, h1, r1⟩ := hy.lst u
          rw [r1.strs e] at h1
          exact g_joinK (sq_of h1) (by omega) (q.sc u fun _ => .str _)
      · exact q.elim
    · exact q.elim
  · exact q.elim
theorem d_index : MtD K mg (fun x xs H Q => ∃ a b i rest, x = .str a ∧ xs = [.str b] ∧ Builtin.Str.occurrences a b 0 a.length 1 = i :: rest ∧ Q (.int (i : Nat)) H) O.index := by
  intro F H x xs d ds Q u hx r q
  unfold O.index at q
  split at q
  · cases hx.str
    split at q
    · rename_i i rest e
      match xs, r with
      | [y], .cons hy .nil =>
        cases hy.str
        exact ⟨_, _, i, rest, rfl, rfl, e, q.sc u fun _ => .int _⟩
    · exact q.elim
  · exact q.elim
end
end Dx

namespace Dx
open PySem PySem.Spec PyProof.Rows L2 Hx
theorem peOr {X : Cx} {e : Expr} {t u : TE} (h : PE X e t) (k : PE X e u) : PE X e (fun σ H Q => t σ H Q ∨ u σ H Q) := ⟨fun pins s σ H Q I q => q.elim (h.run pins s σ H Q I) (k.run pins s σ H Q I)⟩
theorem psOr {X : Cx} {e : Stmt} {t u : TS} (h : PS X e t) (k : PS X e u) : PS X e (fun Y σ H => t Y σ H ∨ u Y σ H) := ⟨fun pins s σ H Y I q => q.elim (h.run pins s σ H Y I) (k.run pins s σ H Y I)⟩
theorem piOr {X : Cx} {tg e : Expr} {t u : TI} (h : PI X tg e t) (k : PI X tg e u) : PI X tg e (fun σ H R => t σ H R ∨ u σ H R) := ⟨fun pins s σ H R I q => q.elim (h.run pins s σ H R I) (k.run pins s σ H R I)⟩
namespace O
def isBl : D → D → Option W
  | .bl a, .bl b => wb (decide (a = b))
  | _, _ => none
def notBl : D → D → Option W
  | .bl a, .bl b => wb (!decide (a = b))
  | _, _ => none
end O
abbrev PM := Env → Z (Option Int)
namespace E
@[simp] def noP (ρ : Env) : Z (Option Int) := .ok none ρ
def partR : W → Env → Z (Option Int)
  | .t (.int i), ρ => .ok (some i) ρ
  | _, _ => .bad
@[simp] def part (e : EM) (ρ : Env) : Z (Option Int) := (e ρ).bind fun w ρ1 => partR w ρ1
@[simp] def sl (e : EM) (lo hi : PM) (ρ : Env) : Z W := (e ρ).bind fun w ρ1 => (lo ρ1).bind fun l ρ2 => (hi ρ2).bind fun h ρ3 => ap1 (O.sl l h) (pk w.st ρ3) ρ3
def revR : Option D → Env → Z W
  | some (.str z), ρ => toW (O.rev (.str z)) ρ
  | some (.lst ds), ρ => .ok (.f ds.reverse) ρ
  | _, _ => .bad
@[simp] def rev (e : EM) (ρ : Env) : Z W := (e ρ).bind fun w ρ1 => revR (pk w.st ρ1) ρ1
def m0R (f : D → List D → Option W) : W → Env → Z W
  | .t (.str z), ρ => toW (f (.str z) []) ρ
  | _, _ => .bad
@[simp] def m0 (f : D → List D → Option W) (o : EM) (ρ : Env) : Z W := (o ρ).bind fun w ρ1 => m0R f w ρ1
def m1S (f : D → List D → Option W) (z : Str) : Option D → Env → Z W
  | some d, ρ => toW (f (.str z) [d]) ρ
  | none, _ => .bad
def m1R (f : D → List D → Option W) (e : EM) : W → Env → Z W
  | .t (.str z), ρ => (e ρ).bind fun w2 ρ2 => m1S f z (pk w2.st ρ2) ρ2
  | _, _ => .bad
@[simp] def m1 (f : D → List D → Option W) (o e : EM) (ρ : Env) : Z W := (o ρ).bind fun w ρ1 => m1R f e w ρ1
end E
@[simp] def zipN (ns : List Str) (ds : List D) : List (Str × D) := ns.zip ds
/-- raise C(..): the fields by name, the last one first -/
@[simp] def S.raise (cn : Str) (ns : List Str) (a : AM) (ρ : Env) : Z Sig := (a ρ).bind fun ws ρ1 => (fzs ws ρ1).bind fun ds ρ2 => if ds.length = ns.length then .ex cn (ns.zip ds).reverse ρ2 else .bad
section
variable {K : PySem.W.Frag} {mg : Str → Option Value} {c : Ctx K mg} {wx : WX} {X : Cx} {e : Expr} {st : Stmt} {mas : AM} {me mb : EM}
theorem d_isBl : OpD2 K mg rIsB O.isBl := by
  intro F H x y d e Q u hx hy q
  unfold O.isBl at q
  split at q
  · cases hx.bl; cases hy.bl; exact ⟨_, _, rfl, rfl, q.sc u fun _ => .bl _⟩
  · exact q.elim
theorem d_notBl : OpD2 K mg rNotB O.notBl := by
  intro F H x y d e Q u hx hy q
  unfold O.notBl at q
  split at q
  · cases hx.bl; cases hy.bl; exact ⟨_, _, rfl, rfl, q.sc u fun _ => .bl _⟩
  · exact q.elim
/-! slices -/
def liftO (c : Ctx K mg) (wx : WX) (m : PM) : TO := fun σ H Q => ∃ F ρ, Rs c F σ H ρ ∧ Pst c wx F σ (m ρ) fun i ρ' => ∀ F' H', Same F F' → Rs c F' σ H' ρ' → Q i H'
theorem poI2 {oe : Option Expr} {t t' : TO} (h : PO X oe t) (i : ∀ σ H Q, t' σ H Q → t σ H Q) : PO X oe t' := poI h i
theorem pd_noP {oe : Option Expr} (h : PO X oe tNoPart) : PO X oe (liftO c wx E.noP) := poI h fun σ H Q ⟨F, ρ, R, p⟩ => p F H (Same.refl F) R
theorem pd_part {oe : Option Expr} (h : PO X oe (tPart (liftE c wx me))) : PO X oe (liftO c wx (E.part me)) := poI h fun σ H Q ⟨F, ρ, R, p⟩ => ⟨F, ρ, R, (Pst.bnd p).im fun w ρ1 p x F1 H1 s1 R1 r1 => by
  cases w with
  | t d =>
    cases d with
    | int i => exact ⟨i, Rd.inv_int r1, p F1 H1 s1 R1⟩
    | _ => exact p.elim
  | _ => exact p.elim⟩
theorem lift_sl {lo hi : PM} (σ : L2.St) (H : Hp) (Q : VK) (h : liftE c wx (E.sl me lo hi) σ H Q) : tSl (rSlUT K) (liftE c wx me) (liftO c wx lo) (liftO c wx hi) σ H Q := by
  obtain ⟨F, ρ, R, p⟩ := h
  refine ⟨F, ρ, R, p.bnd.im fun w1 ρ1 p x F1 H1 s1 R1 r1 => ?_⟩
  obtain ⟨F1', s1', R1', r1'⟩ := r1.toSt R1
  refine ⟨F1', ρ1, R1', p.bnd.up (s1.trans s1') fun l ρ2 p F2 H2 s2 R2 => ?_⟩
  refine ⟨F2, ρ2, R2, p.bnd.up ((s1.trans s1').trans s2) fun h ρ3 p F3 H3 s3 R3 => ?_⟩
  have r3 : RdW c F3 σ H3 ρ3 x w1.st := r1'.st_up (s2.trans s3) (by cases w1 <;> rfl)
  have sA := ((s1.trans s1').trans s2).trans s3
  cases ek : pk w1.st ρ3 with
  | none => rw [ek] at p; exact p.elim
  | some d =>
    rw [ek] at p
    exact d_sl F3 H3 x d Q R3.up (R3.pk r3 (by cases w1 <;> rfl) ek) (R3.res (Pst.up sA p fun w ρ' k x F' H' s => k x F' H' (sA.trans s)))
theorem pd_sl {lo hi : PM} (h : PE X e (tSl (rSlUT K) (liftE c wx me) (liftO c wx lo) (liftO c wx hi))) : PE X e (liftE c wx (E.sl me lo hi)) := pd_of h lift_sl
theorem lift_rev (σ : L2.St) (H : Hp) (Q : VK) (h : liftE c wx (E.rev me) σ H Q) : tRevS (liftE c wx me) σ H Q ∨ tRevL K (liftE c wx me) σ H Q := by
  obtain ⟨F, ρ, R, p⟩ := h
  cases em : me ρ with
  | bad => have p := p.bnd; rw [em] at p; exact p.elim
  | ex cn fs ρ1 => have p := p.bnd; rw [em] at p; exact .inl ⟨F, ρ, R, by rw [em]; exact p⟩
  | ok w ρ1 =>
    have p := p.bnd; rw [em] at p
    have p : Pst c wx F σ (E.revR (pk w.st ρ1) ρ1) fun w ρ' => ∀ x F' H', Same F F' → Rs c F' σ H' ρ' → RdW c F' σ H' ρ' x w → Q x H' := p
    cases ek : pk w.st ρ1 with
    | none => rw [ek] at p; exact p.elim
    | some d =>
      rw [ek] at p
      cases d with
      | str z =>
        refine .inl ⟨F, ρ, R, ?_⟩
        rw [em]
        intro x F1 H1 s1 R1 r1
        obtain ⟨F2, s2, R2, r2⟩ := r1.toSt R1
        have hx := (R2.pk r2 (by cases w <;> rfl) ek).str
        subst hx
        have q := R2.res (Pst.up (s1.trans s2) p fun w ρ' k x F' H' s => k x F' H' ((s1.trans s2).trans s))
        unfold O.rev at q
        dsimp only at q
        by_cases l : z.length ≤ 16000000
        · rw [if_pos l] at q
          exact ⟨z, rfl, by rw [sizeLine_eq]; omega, q.sc R2.up fun _ => .str _⟩
        · rw [if_neg l] at q; exact q.elim
      | lst ds =>
        refine .inr ⟨F, ρ, R, ?_⟩
        rw [em]
        intro x F1 H1 s1 R1 r1
        obtain ⟨F2, s2, R2, r2⟩ := r1.toSt R1
        obtain ⟨a, vs, rfl, h1, rr⟩ := (R2.pk r2 (by cases w <;> rfl) ek).lst R2.up
        refine ⟨a, vs, rfl, sq_of h1, fun q nq => ?_⟩
        exact p _ F2 _ (s1.trans s2) (R2.alloc nq) ⟨q, vs.reverse, rfl, R2.up.free nq, R2.none0 nq, upd_same, rr.rev, R2.noNew nq⟩
      | _ => exact p.elim
theorem pd_rev (h : PE X e (fun σ H Q => tRevS (liftE c wx me) σ H Q ∨ tRevL K (liftE c wx me) σ H Q)) : PE X e (liftE c wx (E.rev me)) := pd_of h lift_rev
theorem lift_m0 {r : V → List V → Hp → VK → Prop} {f : D → List D → Option W} (hf : MtD K mg r f) (σ : L2.St) (H : Hp) (Q : VK) (h : liftE c wx (E.m0 f me) σ H Q) : tM0 r (liftE c wx me) σ H Q := by
  obtain ⟨F, ρ, R, p⟩ := h
  refine ⟨F, ρ, R, p.bnd.im fun w1 ρ1 p x F1 H1 s1 R1 r1 => ?_⟩
  cases w1 with
  | t d =>
    cases d with
    | str z =>
      have hx := Rd.inv_str r1
      subst hx
      exact ⟨⟨z, rfl⟩, hf F1 H1 _ [] (.str z) [] Q R1.up (.inl (.str z)) .nil (R1.res (Pst.up s1 p fun w ρ' k x F' H' s => k x F' H' (s1.trans s)))⟩
    | _ => exact p.elim
  | _ => exact p.elim
theorem pd_m0 {r : V → List V → Hp → VK → Prop} {f : D → List D → Option W} (hf : MtD K mg r f) (h : PE X e (tM0 r (liftE c wx me))) : PE X e (liftE c wx (E.m0 f me)) := pd_of h (lift_m0 hf)
theorem lift_m1 {r : V → List V → Hp → VK → Prop} {f : D → List D → Option W} (hf : MtD K mg r f) (σ : L2.St) (H : Hp) (Q : VK) (h : liftE c wx (E.m1 f me mb) σ H Q) : tM1 r (liftE c wx me) (liftE c wx mb) σ H Q := by
  obtain ⟨F, ρ, R, p⟩ := h
  refine ⟨F, ρ, R, p.bnd.im fun w1 ρ1 p x F1 H1 s1 R1 r1 => ?_⟩
  cases w1 with
  | t d =>
    cases d with
    | str z =>
      have hx := Rd.inv_str r1
      subst hx
      refine ⟨⟨z, rfl⟩, F1, ρ1, R1, Pst.up s1 (Pst.bnd p) fun w2 ρ2 p y F2 H2 s2 R2 r2 => ?_⟩
      obtain ⟨F3, s3, R3, r3⟩ := r2.toSt R2
      cases ek : pk w2.st ρ2 with
      | none => rw [ek] at p; exact p.elim
      | some d =>
        rw [ek] at p
        exact hf F3 H2 _ [y] (.str z) [d] Q R3.up (.inl (.str z)) (.cons (R3.pk r3 (by cases w2 <;> rfl) ek) .nil) (R3.res (Pst.up ((s1.trans s2).trans s3) p fun w ρ' k x F' H' s => k x F' H' (((s1.trans s2).trans s3).trans s)))
    | _ => exact p.elim
  | _ => exact p.elim
theorem pd_m1 {r : V → List V → Hp → VK → Prop} {f : D → List D → Option W} (hf : MtD K mg r f) (h : PE X e (tM1 r (liftE c wx me) (liftE c wx mb))) : PE X e (liftE c wx (E.m1 f me mb)) := pd_of h (lift_m1 hf)
/-! raise -/
theorem Rs.newX {F H : Hp} {σ : L2.St} {ρ : Env} {d : Addr} {fsV : List (Str × V)} (R : Rs c F σ H ρ) (n : H d = none) : Rs c (upd F d (.xd fsV)) σ (upd H d (.xd fsV)) ρ ∧ Same F (upd F d (.xd fsV)) := by
  have a := Adv.put (o := .xd fsV) R.up n
  exact ⟨R.adv a, a.ff⟩
theorem lift_raise1 {cn f : Str} {C : Addr} (hm : mg cn = some (.ref C)) (Y : Ends) (σ : L2.St) (H : Hp) (h : liftS c wx (S.raise cn [f] mas) Y σ H) : tMkO C (sp_in1 C f) [] (liftA c wx mas) σ H fun cls d H' => wx cls d σ H' := by
  obtain ⟨F, ρ, R, p⟩ := h
  refine liftA_fz ⟨F, ρ, R, p, fun ds ρ2 xs F2 H2 s2 R2 r2 p => ?_⟩
  match ds, r2, p with
  | [d], .cons (v := v) r0 .nil, p =>
    dsimp only [List.length_cons, List.length_nil, List.zip_cons_cons, List.zip_nil_right, List.reverse_cons, List.reverse_nil, List.nil_append] at p
    rw [if_pos rfl] at p
    refine g_mk1 (f := f) (C := C) (v := v) (G := H2) (Q := fun cls d H' => wx cls d σ H') fun a na => ?_
    obtain ⟨R3, s3⟩ := R2.newX (fsV := [(f, v)]) na
    exact p C a [(f, v)] _ _ σ hm s3 R3 upd_same (.cons (r0.up s3) .nil)
  | [], .nil, p => exact p.elim
  | _ :: _ :: _, .cons _ (.cons _ _), p => rw [if_neg (by simp)] at p; exact p.elim
theorem lift_raise2 {cn f f2 : Str} {C : Addr} (hm : mg cn = some (.ref C)) (Y : Ends) (σ : L2.St) (H : Hp) (h : liftS c wx (S.raise cn [f, f2] mas) Y σ H) : tMkO C (sp_in2 C f f2) [] (liftA c wx mas) σ H fun cls d H' => wx cls d σ H' := by
  obtain ⟨F, ρ, R, p⟩ := h
  refine liftA_fz ⟨F, ρ, R, p, fun ds ρ2 xs F2 H2 s2 R2 r2 p => ?_⟩
  match ds, r2, p with
  | [d, d2], .cons (v := v) r0 (.cons (v := v2) r1 .nil), p =>
    dsimp only [List.length_cons, List.length_nil, List.zip_cons_cons, List.zip_nil_right, List.reverse_cons, List.reverse_nil, List.nil_append, List.cons_append] at p
    rw [if_pos rfl] at p
    refine g_mk2 (f := f) (f2 := f2) (C := C) (v := v) (v2 := v2) (G := H2) (Q := fun cls d H' => wx cls d σ H') fun a na => ?_
    obtain ⟨R3, s3⟩ := R2.newX (fsV := [(f2, v2), (f, v)]) na
    exact p C a [(f2, v2), (f, v)] _ _ σ hm s3 R3 upd_same (.cons (r1.up s3) (.cons (r0.up s3) .nil))
  | [], .nil, p => exact p.elim
  | [_], .cons _ .nil, p => rw [if_neg (by simp)] at p; exact p.elim
  | _ :: _ :: _ :: _, .cons _ (.cons _ (.cons _ _)), p => rw [if_neg (by simp)] at p; exact p.elim
theorem pd_raise1 {cn f : Str} {C : Addr} (hm : mg cn = some (.ref C)) (h : PS X st (fun _ σ H => tMkO C (sp_in1 C f) [] (liftA c wx mas) σ H fun cls d H' => wx cls d σ H')) : PS X st (liftS c wx (S.raise cn [f] mas)) := psI h fun Y σ H q => lift_raise1 hm Y σ H q
theorem pd_raise2 {cn f f2 : Str} {C : Addr} (hm : mg cn = some (.ref C)) (h : PS X st (fun _ σ H => tMkO C (sp_in2 C f f2) [] (liftA c wx mas) σ H fun cls d H' => wx cls d σ H')) : PS X st (liftS c wx (S.raise cn [f, f2] mas)) := psI h fun Y σ H q => lift_raise2 hm Y σ H q
end
/-! ## sources -/
namespace I
@[simp] def of (e : EM) (ρ : Env) : Z (List D) := (e ρ).bind fun w ρ1 => (fz w ρ1).bind fun d ρ2 => toZ (itemsOf d) ρ2
def enD (zs : List D) : List D := zs.zipIdx.map fun p => .tup [.int (p.2 : Nat), p.1]
def enR : List D → Env → Z (List D)
  | [.lst zs], ρ => .ok (enD zs) ρ
  | [.tup zs], ρ => .ok (enD zs) ρ
  | [.scr zs], ρ => .ok (enD zs) ρ
  | _, _ => .bad
@[simp] def enum (a : AM) (ρ : Env) : Z (List D) := (a ρ).bind fun ws ρ1 => (fzs ws ρ1).bind fun ds ρ2 => enR ds ρ2
def ziD (xs ys : List D) : List D := List.zipWith (fun x y => .tup [x, y]) xs ys
def ziR : List D → Env → Z (List D)
  | [.lst xs, .lst ys], ρ => .ok (ziD xs ys) ρ
  | _, _ => .bad
@[simp] def zip (a : AM) (ρ : Env) : Z (List D) := (a ρ).bind fun ws ρ1 => (fzs ws ρ1).bind fun ds ρ2 => ziR ds ρ2
/-- lo, lo + 1, .., n of them -/
def upD (lo : Int) (n : Nat) : List D := (List.range n).map fun i => .int (lo + (i : Nat))
def dnD (hi : Int) (n : Nat) : List D := (List.range n).map fun i => .int (hi - (i : Nat))
def r1R : List D → Env → Z (List D)
  | [.int j], ρ => if -(2 ^ 62) ≤ j ∧ j < 2 ^ 62 then .ok (upD 0 j.toNat) ρ else .bad
  | _, _ => .bad
def r2R : List D → Env → Z (List D)
  | [.int i, .int j], ρ => if -(2 ^ 62) ≤ i ∧ i < 2 ^ 62 ∧ -(2 ^ 62) ≤ j ∧ j < 2 ^ 62 then .ok (upD i (j - i).toNat) ρ else .bad
  | _, _ => .bad
def r3R : List D → Env → Z (List D)
  | [.int i, .int j, .int (-1)], ρ => if -(2 ^ 62) ≤ i ∧ i < 2 ^ 62 ∧ -(2 ^ 62) ≤ j ∧ j < 2 ^ 62 then .ok (dnD i (i - j).toNat) ρ else .bad
  | _, _ => .bad
@[simp] def rng1 (a : AM) (ρ : Env) : Z (List D) := (a ρ).bind fun ws ρ1 => (fzs ws ρ1).bind fun ds ρ2 => r1R ds ρ2
@[simp] def rng2 (a : AM) (ρ : Env) : Z (List D) := (a ρ).bind fun ws ρ1 => (fzs ws ρ1).bind fun ds ρ2 => r2R ds ρ2
/-- range(i, j, -1) -/
@[simp] def rng3 (a : AM) (ρ : Env) : Z (List D) := (a ρ).bind fun ws ρ1 => (fzs ws ρ1).bind fun ds ρ2 => r3R ds ρ2
end I
section
variable {K : PySem.W.Frag} {mg : Str → Option Value} {c : Ctx K mg} {wx : WX} {X : Cx} {tg e : Expr} {mas : AM} {me : EM}
/-- from a walk to the steps -/
theorem steps_of {J : It} {n : Nat} {G : Hp → Prop} {Y : Nat → Hp → V → Hp → Prop} {ds : List D} {F0 : Hp} (w : Walk J n G Y) (hn : n = ds.length) (hG : ∀ F H, Same F0 F → Up F H → G H) (hY : ∀ i F H x H', Same F0 F → Up F H → i < ds.length → Y i H x H' → ∃ F', Adv F H F' H' ∧ ∀ d, ds[i]? = some d → Rd K mg F' x d) : Steps c J ds F0 := by
  subst hn
  intro P i F H s hk
  have u := hk.up
  have g := hG F H s u
  exact ⟨fun l => ⟨w.goes i H l g, fun x H' y => hY i F H x H' s u l (w.yields i H x H' l g y)⟩, fun e => by subst e; exact w.stops H g⟩
theorem steps_at {J : It} {vs : List V} {ds : List D} {G : Hp → Prop} {F0 : Hp} (w : Walk J vs.length G (YAt vs)) (r : RdL K mg F0 vs ds) (hG : ∀ F H, Same F0 F → Up F H → G H) : Steps c J ds F0 :=
  steps_of w r.len hG fun i F H x H' s u l ⟨e, ex⟩ => by
    subst e
    refine ⟨F, Adv.refl u, fun d ed => ?_⟩
    obtain ⟨v, ev, rv⟩ := r.get ed
    rw [ex] at ev; cases ev
    exact rv.up s
theorem steps_pair {J : It} {n : Nat} {ds : List D} {G : Hp → Prop} {F0 : Hp} {xs ys : Nat → Option V} {dx dy : Nat → Option D} (w : Walk J n G (YPair xs ys)) (hn : n = ds.length) (hG : ∀ F H, Same F0 F → Up F H → G H)
    (hd : ∀ i d, ds[i]? = some d → ∃ a b, dx i = some a ∧ dy i = some b ∧ d = .tup [a, b]) (h1 : ∀ i x a, xs i = some x → dx i = some a → Rd K mg F0 x a) (h2 : ∀ i x a, ys i = some x → dy i = some a → Rd K mg F0 x a) : Steps c J ds F0 :=
  steps_of w hn hG fun i F H x H' s u l ⟨T, v1, v2, e1, nT, e2, e3, e4⟩ => by
    subst e1 e2
    have a := Adv.put (o := .tup [v1, v2]) u nT
    refine ⟨_, a, fun d ed => ?_⟩
    obtain ⟨d1, d2, q1, q2, rfl⟩ := hd i d ed
    exact .tup upd_same (.cons ((h1 i _ _ e3 q1).up (s.trans a.ff)) (.cons ((h2 i _ _ e4 q2).up (s.trans a.ff)) .nil))
theorem steps_fn {J : It} {n : Nat} {ds : List D} {G : Hp → Prop} {F0 : Hp} {f : Nat → V} (w : Walk J n G (YFn f)) (hn : n = ds.length) (hG : ∀ H, G H) (hd : ∀ F i d, ds[i]? = some d → Rd K mg F (f i) d) : Steps c J ds F0 :=
  steps_of w hn (fun _ H _ _ => hG H) fun i F H x H' s u l ⟨e, ex⟩ => by
    subst e ex
    exact ⟨F, Adv.refl u, fun d ed => hd F i d ed⟩
theorem lift_of (σ : L2.St) (H : Hp) (R : It → Hp → Prop) (h : liftI c wx (I.of me) σ H R) : iAny K (liftE c wx me) σ H R := by
  obtain ⟨F, ρ, R0, p⟩ := h
  refine ⟨F, ρ, R0, p.bnd.im fun w ρ1 p x F1 H1 s1 R1 r1 => ?_⟩
  cases e : fz w ρ1 with
  | bad => rw [e] at p; exact p.elim
  | ex _ _ _ => exact absurd e fz_ne
  | ok d ρ2 =>
    rw [e] at p
    obtain ⟨F2, s2, R2, r2⟩ := fz_ok R1 r1 e
    cases d with
    | lst ds =>
      obtain ⟨a, vs, rfl, h, rl⟩ := r2.inv_lst
      exact .inl ⟨a, rfl, ⟨vs, sq_of (R2.up.lst h)⟩, p _ F2 H1 (s1.trans s2) R2 (steps_at walk_list rl fun F H s u => sq_of (u.lst (s _ _ h)))⟩
    | tup ds =>
      obtain ⟨a, vs, rfl, h, rl⟩ := r2.inv_tup
      exact .inr (.inl ⟨a, rfl, ⟨vs, st_of (R2.up.tup h)⟩, p _ F2 H1 (s1.trans s2) R2 (steps_at walk_tup rl fun F H s u => st_of (u.tup (s _ _ h)))⟩)
    | scr ds =>
      cases r2 with
      | @scr a vs _ h rl =>
        exact .inl ⟨a, rfl, ⟨vs, R2.up.seq h⟩, p _ F2 H1 (s1.trans s2) R2 (steps_at walk_list rl fun F H s u => u.seq (s.seq h))⟩
    | str z =>
      have hx := r2.inv_str
      subst hx
      refine .inr (.inr ⟨z, rfl, p _ F2 H1 (s1.trans s2) R2 (steps_of walk_str (by simp) (fun _ _ _ _ => trivial) fun i F H x H' s u l ⟨e, k, ek, ex⟩ => ?_)⟩)
      subst e ex
      refine ⟨F, Adv.refl u, fun d ed => ?_⟩
      rw [List.getElem?_map, Array.getElem?_toList, ek] at ed
      cases ed
      exact .str _
    | dct b es => exact (show False from p).elim
    | _ => exact p.elim
theorem pd_iof (h : PI X tg e (iAny K (liftE c wx me))) : PI X tg e (liftI c wx (I.of me)) := piI h lift_of
theorem liftA_I {k : List D → Env → Z (List D)} (σ : L2.St) (H : Hp) (R : It → Hp → Prop) {G : List V → Hp → Prop} (h : liftI c wx (fun ρ => (mas ρ).bind fun ws ρ1 => (fzs ws ρ1).bind k) σ H R)
    (go : ∀ ds ρ2 xs F2 H2, Rs c F2 σ H2 ρ2 → RdL K mg F2 xs ds → Pst c wx F2 σ (k ds ρ2) (fun ds ρ' => ∀ J F' H', Same F2 F' → Rs c F' σ H' ρ' → Steps c J ds F' → R J H') → G xs H2) : liftA c wx mas σ H G := by
  obtain ⟨F, ρ, R0, p⟩ := h
  refine liftA_fz ⟨F, ρ, R0, p, fun ds ρ2 xs F2 H2 s2 R2 r2 p => go ds ρ2 xs F2 H2 R2 r2 (p.im fun ds ρ' k J F' H' s => k J F' H' (s2.trans s))⟩
theorem enum_at {zs : List D} {i : Nat} {d : D} (h : (I.enD zs)[i]? = some d) : ∃ a b, (some (D.int (i : Nat)) : Option D) = some a ∧ zs[i]? = some b ∧ d = .tup [a, b] := by
  unfold I.enD at h
  rw [List.getElem?_map, List.getElem?_zipIdx] at h
  cases e : zs[i]? with
  | none => rw [e] at h; cases h
  | some z => rw [e] at h; simp at h; exact ⟨_, z, rfl, rfl, h.symm⟩
theorem lift_enum (σ : L2.St) (H : Hp) (R : It → Hp → Prop) (h : liftI c wx (I.enum mas) σ H R) : iEnA K (liftA c wx mas) σ H R := by
  refine liftA_I σ H R h fun ds ρ2 xs F2 H2 R2 r2 p => ?_
  unfold I.enR at p
  split at p
  · match xs, r2 with
    | [x], .cons r0 .nil =>
      obtain ⟨a, vs, rfl, h, rl⟩ := r0.inv_lst
      exact .inl ⟨a, vs, rfl, sq_of (R2.up.lst h), p _ F2 H2 (Same.refl _) R2 (steps_pair (dx := fun i => some (.int (i : Nat))) (dy := fun i => _) walk_enum (by rw [rl.len]; simp [I.enD]) (fun F H s u => sq_of (u.lst (s _ _ h))) (fun i d hd => enum_at hd) (fun i x a e1 e2 => by cases e1; cases e2; exact .int _) (fun i x a e1 e2 => by
        obtain ⟨v, ev, rv⟩ := rl.get e2; rw [e1] at ev; cases ev; exact rv))⟩
  · match xs, r2 with
    | [x], .cons r0 .nil =>
      obtain ⟨a, vs, rfl, h, rl⟩ := r0.inv_tup
      exact .inr ⟨a, vs, rfl, st_of (R2.up.tup h), p _ F2 H2 (Same.refl _) R2 (steps_pair (dx := fun i => some (.int (i : Nat))) (dy := fun i => _) walk_enT (by rw [rl.len]; simp [I.enD]) (fun F H s u => st_of (u.tup (s _ _ h))) (fun i d hd => enum_at hd) (fun i x a e1 e2 => by cases e1; cases e2; exact .int _) (fun i x a e1 e2 => by
        obtain ⟨v, ev, rv⟩ := rl.get e2; rw [e1] at ev; cases ev; exact rv))⟩
  · match xs, r2 with
    | [x], .cons r0 .nil =>
      cases r0 with
      | @scr a vs _ h rl =>
        exact .inl ⟨a, vs, rfl, R2.up.seq h, p _ F2 H2 (Same.refl _) R2 (steps_pair (dx := fun i => some (.int (i : Nat))) (dy := fun i => _) walk_enum (by rw [rl.len]; simp [I.enD]) (fun F H s u => u.seq (s.seq h)) (fun i d hd => enum_at hd) (fun i x a e1 e2 => by cases e1; cases e2; exact .int _) (fun i x a e1 e2 => by
          obtain ⟨v, ev, rv⟩ := rl.get e2; rw [e1] at ev; cases ev; exact rv))⟩
  · exact p.elim
theorem pd_enum (h : PI X tg e (iEnA K (liftA c wx mas))) : PI X tg e (liftI c wx (I.enum mas)) := piI h lift_enum
theorem lift_zip (σ : L2.St) (H : Hp) (R : It → Hp → Prop) (h : liftI c wx (I.zip mas) σ H R) : iZip K (liftA c wx mas) σ H R := by
  refine liftA_I σ H R h fun ds ρ2 xs F2 H2 R2 r2 p => ?_
  unfold I.ziR at p
  split at p
  · rename_i dx dy
    match xs, r2 with
    | [x, y], .cons r0 (.cons r1 .nil) =>
      obtain ⟨a, vs, rfl, h, rl⟩ := r0.inv_lst
      obtain ⟨b, ws, rfl, h2, rl2⟩ := r1.inv_lst
      refine ⟨a, b, vs, ws, rfl, sq_of (R2.up.lst h), sq_of (R2.up.lst h2), p _ F2 H2 (Same.refl _) R2 (steps_pair (dx := fun i => dx[i]?) (dy := fun i => dy[i]?) (walk_zip rfl) (by rw [rl.len, rl2.len]; simp [I.ziD]) (fun F H s u => ⟨sq_of (u.lst (s _ _ h)), sq_of (u.lst (s _ _ h2))⟩) (fun i d hd => ?_) (fun i x a e1 e2 => ?_) (fun i x a e1 e2 => ?_))⟩
      · unfold I.ziD at hd
        rw [List.getElem?_zipWith] at hd
        cases e1 : dx[i]? with
        | none => rw [e1] at hd; cases hd
        | some d1 =>
          cases e2 : dy[i]? with
          | none => rw [e1, e2] at hd; cases hd
          | some d2 => rw [e1, e2] at hd; cases hd; exact ⟨d1, d2, rfl, rfl, rfl⟩
      · obtain ⟨v, ev, rv⟩ := rl.get e2; rw [e1] at ev; cases ev; exact rv
      · obtain ⟨v, ev, rv⟩ := rl2.get e2; rw [e1] at ev; cases ev; exact rv
  · exact p.elim
theorem pd_zip (h : PI X tg e (iZip K (liftA c wx mas))) : PI X tg e (liftI c wx (I.zip mas)) := piI h lift_zip
theorem lift_rng1 (σ : L2.St) (H : Hp) (R : It → Hp → Prop) (h : liftI c wx (I.rng1 mas) σ H R) : iRng1 (liftA c wx mas) σ H R := by
  refine liftA_I σ H R h fun ds ρ2 xs F2 H2 R2 r2 p => ?_
  unfold I.r1R at p
  split at p
  · rename_i j
    match xs, r2 with
    | [x], .cons r0 .nil =>
      have hx := r0.inv_int
      subst hx
      by_cases l : -(2 ^ 62) ≤ j ∧ j < 2 ^ 62
      · rw [if_pos l] at p
        refine ⟨j, rfl, l.1, l.2, p _ F2 H2 (Same.refl _) R2 (steps_fn walk_range (by simp [I.upD]) (fun _ => trivial) fun F i d hd => ?_)⟩
        simp only [I.upD, I.dnD] at hd
        rw [List.getElem?_map] at hd
        by_cases li : i < j.toNat
        · rw [List.getElem?_range li] at hd; cases hd; exact .int _
        · rw [List.getElem?_eq_none (by simp; omega)] at hd; cases hd
      · rw [if_neg l] at p; exact p.elim
  · exact p.elim
theorem pd_rng1 (h : PI X tg e (iRng1 (liftA c wx mas))) : PI X tg e (liftI c wx (I.rng1 mas)) := piI h lift_rng1
theorem lift_rng2 (σ : L2.St) (H : Hp) (R : It → Hp → Prop) (h : liftI c wx (I.rng2 mas) σ H R) : iRng2 (liftA c wx mas) σ H R := by
  refine liftA_I σ H R h fun ds ρ2 xs F2 H2 R2 r2 p => ?_
  unfold I.r2R at p
  split at p
  · rename_i i0 j
    match xs, r2 with
    | [x, y], .cons r0 (.cons r1 .nil) =>
      have hx := r0.inv_int
      subst hx
      have hy := r1.inv_int
      subst hy
      by_cases l : -(2 ^ 62) ≤ i0 ∧ i0 < 2 ^ 62 ∧ -(2 ^ 62) ≤ j ∧ j < 2 ^ 62
      · rw [if_pos l] at p
        refine ⟨i0, j, rfl, l, p _ F2 H2 (Same.refl _) R2 (steps_fn walk_range (by simp [I.upD]) (fun _ => trivial) fun F i d hd => ?_)⟩
        simp only [I.upD, I.dnD] at hd
        rw [List.getElem?_map] at hd
        by_cases li : i < (j - i0).toNat
        · rw [List.getElem?_range li] at hd; cases hd; exact .int _
        · rw [List.getElem?_eq_none (by simp; omega)] at hd; cases hd
      · rw [if_neg l] at p; exact p.elim
  · exact p.elim
theorem pd_rng2 (h : PI X tg e (iRng2 (liftA c wx mas))) : PI X tg e (liftI c wx (I.rng2 mas)) := piI h lift_rng2
theorem lift_rng3 (σ : L2.St) (H : Hp) (R : It → Hp → Prop) (h : liftI c wx (I.rng3 mas) σ H R) : iRng3 (liftA c wx mas) σ H R := by
  refine liftA_I σ H R h fun ds ρ2 xs F2 H2 R2 r2 p => ?_
  unfold I.r3R at p
  split at p
  · rename_i i0 j
    match xs, r2 with
    | [x, y, z], .cons r0 (.cons r1 (.cons r3 .nil)) =>
      have hx := r0.inv_int
      subst hx
      have hy := r1.inv_int
      subst hy
      have hz := r3.inv_int
      subst hz
      by_cases l : -(2 ^ 62) ≤ i0 ∧ i0 < 2 ^ 62 ∧ -(2 ^ 62) ≤ j ∧ j < 2 ^ 62
      · rw [if_pos l] at p
        refine ⟨i0, j, -1, (i0 - j).toNat, rfl, RgC.neg l.1 l.2.1 l.2.2.1 l.2.2.2, p _ F2 H2 (Same.refl _) R2 (steps_fn walk_rangeC (by simp [I.dnD]) (fun _ => trivial) fun F i d hd => ?_)⟩
        simp only [I.upD, I.dnD] at hd
        rw [List.getElem?_map] at hd
        by_cases li : i < (i0 - j).toNat
        · rw [List.getElem?_range li] at hd; cases hd; rw [show i0 + ((i : Nat) : Int) * (-1) = i0 - (i : Nat) by omega]; exact .int _
        · rw [List.getElem?_eq_none (by simp; omega)] at hd; cases hd
      · rw [if_neg l] at p; exact p.elim
  · exact p.elim
theorem pd_rng3 (h : PI X tg e (iRng3 (liftA c wx mas))) : PI X tg e (liftI c wx (I.rng3 mas)) := piI h lift_rng3
end
end Dx
namespace Dx
open PySem PySem.Spec PyProof.Rows L2 Hx
namespace M
@[simp] def swapcase (d : D) (es : List D) : Option W := match es with | [] => O.swapcase d es | _ => none
@[simp] def upper (d : D) (es : List D) : Option W := match es with | [] => O.upper d es | _ => none
@[simp] def lower (d : D) (es : List D) : Option W := match es with | [] => O.lower d es | _ => none
end M
def O.addI : D → D → Option W
  | .int a, .int b => wi (a + b)
  | _, _ => none
def parR (i j : Nat) : List D → Env → Z Sig
  | [d, e], ρ => .ok .nx ((ρ.set i (.tr d)).set j (.tr e))
  | _, _ => .bad
/-- a, b = x, y -/
@[simp] def S.par (i j : Nat) (a : AM) (ρ : Env) : Z Sig := (a ρ).bind fun ws ρ1 => (fzs ws ρ1).bind fun ds ρ2 => parR i j ds ρ2
section
variable {K : PySem.W.Frag} {mg : Str → Option Value} {c : Ctx K mg} {wx : WX} {X : Cx} {st : Stmt} {mas : AM}
theorem op_addUT (hK : X.K = K) : OpR X (binaryOp .Add) (fun x y H Q => rAddU x y H Q ∨ rCatT K x y H Q) := by subst hK; exact op_addU.or op_catT
theorem takesF : Takes X WF := fun _ _ x => by
  obtain ⟨_, _, _, _, _, _, _, _, _, _, _, _, _, _, _, _, w⟩ := x
  exact w.elim
theorem pe_revLK {e : Expr} {te : TE} {k : Nat} {p1 p2 p3 pos : Pos} (hK : X.K = K) (he : PE X e te) : PE X (.Subscript e (.Slice none none (some (.UnaryOp .USub (.Constant (.int 1) k p1) p2)) p3) pos) (tRevL K te) := hK ▸ pe_revL he
theorem pi_zipK {e e2 : Expr} {ta : TA} {p pos tpos : Pos} {elts : List Expr} {kk : Nat} (hK : X.K = K) (hg : Gl X "zip") (hm : X.mg "zip" = none) (ha : PA X [e, e2] ta)
    (hs : starEach [e, e2] X.env = (false, eval e X.env) :: starEach [e2] X.env := by rfl) (hpl : (backTo pos (starEach [e2] X.env)).any (·.1) = false := by rfl) :
    PI X (.Tuple elts kk tpos) (.Call (.Name "zip" p) [e, e2] [] pos) (iZip K ta) := hK ▸ pi_zip hg hm ha hs hpl
theorem d_addI : OpD2 K mg (ipI fun i j => i + j) O.addI := by
  intro F H x y d e Q u hx hy q
  unfold O.addI at q
  split at q
  · cases hx.int; cases hy.int; exact ⟨_, _, rfl, rfl, q.sc u fun _ => .int _⟩
  · exact q.elim
theorem d_subI : OpD2 K mg (ipI fun i j => i - j) O.sub := by
  intro F H x y d e Q u hx hy q
  unfold O.sub at q
  split at q
  · cases hx.int; cases hy.int; exact ⟨_, _, rfl, rfl, q.sc u fun _ => .int _⟩
  · exact q.elim
theorem lift_par {i j : Nat} (hij : i ≠ j) (Y : Ends) (σ : L2.St) (H : Hp) (h : liftS c wx (S.par i j mas) Y σ H) : tPar i j (liftA c wx mas) Y σ H := by
  obtain ⟨F, ρ, R, p⟩ := h
  refine liftA_fz ⟨F, ρ, R, p, fun ds ρ2 xs F2 H2 s2 R2 r2 p => ?_⟩
  match ds, r2, p with
  | [d, d2], .cons (v := v) r0 (.cons (v := v2) r1 .nil), p => exact ⟨v, v2, rfl, p _ F2 H2 s2 ((R2.setTr r0).setTr r1)⟩
  | [], .nil, p => exact p.elim
  | [_], .cons _ .nil, p => exact p.elim
  | _ :: _ :: _ :: _, .cons _ (.cons _ (.cons _ _)), p => exact p.elim
theorem pd_par {i j : Nat} (h : PS X st (tPar i j (liftA c wx mas))) (hij : i ≠ j) : PS X st (liftS c wx (S.par i j mas)) := psI h (lift_par hij)
theorem rd_ints {F : Hp} : ∀ ns : List Int, RdL K mg F (ns.map V.int) (ns.map D.int)
  | [] => .nil
  | n :: ns => .cons (.int n) (rd_ints ns)
end
end Dx
namespace Dx
open PySem PySem.Spec PyProof.Rows L2 Hx
@[simp] def E.dnew (b : Bool) (ρ : Env) : Z W := .ok (.g b []) ρ
section
variable {K : PySem.W.Frag} {mg : Str → Option Value} {c : Ctx K mg} {wx : WX} {X : Cx} {e : Expr}
theorem pd_dnewK (h : PE X e tDNewK) : PE X e (liftE c wx (E.dnew false)) := pd_of h fun σ H Q ⟨F, ρ, R, p⟩ q n =>
  p _ F _ (Same.refl F) (R.alloc n) ⟨q, rfl, R.up.free n, R.none0 n, .inl ⟨rfl, [], upd_same, .nil⟩, R.noNew n⟩
theorem pd_dnewT (h : PE X e tDNewT) : PE X e (liftE c wx (E.dnew true)) := pd_of h fun σ H Q ⟨F, ρ, R, p⟩ q n =>
  p _ F _ (Same.refl F) (R.alloc n) ⟨q, rfl, R.up.free n, R.none0 n, .inr ⟨rfl, [], upd_same, .nil⟩, R.noNew n⟩
end
theorem sw_cell {elt : Expr} {gs : List Comprehension} {scope : Scope} {pos py : Pos} {y : Str} {l : Nat} {env : PySem.Env} (hy : env.scope.names.lookup y = some .cell) : swapsWith (.ListComp elt gs scope pos) (some (.Name y py)) l env = pure false := by
  have ky : env.kindOf y = some .cell := hy
  unfold swapsWith
  simp only [ky]
  rw [show ((some NameKind.cell : Option NameKind) == some .local) = false from rfl, Bool.and_false, Bool.false_and, Bool.false_and]
end Dx

/-! ## targets with a star -/
namespace L2
open PySem PySem.Spec PyProof.Rows PySem.W
section
variable {prog : Program} {w : World} {A : Around} {E : Value → Shared → Prop} {s : Shared} {env : PySem.Env} {elts : List Expr} {k : Nat} {pos : Pos}
theorem starT_items {l : Addr} {items : Array Value} {n i : Nat} {Q : List Value → Shared → Prop} (hl : IsTup s.heap l items) (hh : A.handled = none) (hi : i < n) (hn : n ≤ items.size + 1) (hz : items.size ≤ sizeLine)
    (h : ∀ (h' : Heap) (tk : Nat), (∀ b o, s.heap.get? b = some o → h'.get? b = some o) → Q (items.toList.take i ++ [.ref h'.objs.size] ++ (items.toList.drop i).drop (items.size + 1 - n)) { s with heap := h'.push { cls := .type "list", data := .seq ((items.toList.drop i).take (items.size + 1 - n)).toArray }, toks := tk }) :
    wpAny (model prog w) A (unpackItems (.ref l) n (some i)) Q E s := by
  have hlt : l ≠ s.heap.objs.size := by obtain ⟨o, ho, _⟩ := hl; exact Nat.ne_of_lt (Heap.lt_size ho)
  unfold unpackItems
  refine wpAny_bind ?_
  unfold notIterableAtAll
  refine wpAny_bind (wpAny_specialOf hl.typeIs slot_tuple_iter.lookup ?_)
  refine wpAny_pure ?_
  simp only [Bool.false_eq_true, if_false]
  refine wpAny_bind (wpAny_holding (iter_tuple hl ?_))
  refine wpAny_bind (wpAny_holding (draw_tuple hlt i 0 _ _ ⟨_, Heap.get?_push_size _ rfl, rfl, rfl⟩ (hl.push _) (by omega) fun h₁ hit₁ hs₁ => ?_))
  have hl₁ : IsTup h₁ l items := (hl.push _).extBut hs₁.extBut hlt
  rw [Nat.zero_add] at hit₁
  have hit₁' := hit₁
  obtain ⟨oi, hoi, _⟩ := hit₁'
  have hl₁' := hl₁
  obtain ⟨ol, hol, _⟩ := hl₁'
  rw [List.drop_zero]
  have hfl : (items.toList.take i).length = i := by rw [List.length_take, Array.length_toList]; omega
  rw [if_neg (show ¬ ((items.toList.take i).length < i) by rw [hfl]; omega)]
  refine wpAny_bind (wpAny_holding (kun_collect (s := { s with heap := h₁ }) (T := "tuple_iterator") (.inr (.inr (.inr rfl))) (Walks.tuple (A := A.in1) hh s.heap.objs.size l hlt items) (fun j u st => st.1.typeIs) (k := i) (by omega) ⟨hit₁, hl₁⟩ (Heap.lt_size hoi) (Heap.lt_size hol) (fun h₂ tk hk => ?_) hz))
  have hrl : (items.toList.drop i).length = items.size - i := by rw [List.length_drop, Array.length_toList]
  have hmid : (items.toList.drop i).length - (n - 1 - i) = items.size + 1 - n := by rw [hrl]; omega
  show wpAny _ _ (if (items.toList.drop i).length < n - 1 - i then _ else _) _ _ _
  rw [if_neg (by rw [hrl]; omega)]
  show wpAny _ _ (newList ((items.toList.drop i).take ((items.toList.drop i).length - (n - 1 - i))) >>= fun d => pure (items.toList.take i ++ [d] ++ (items.toList.drop i).drop ((items.toList.drop i).length - (n - 1 - i)))) _ _ _
  rw [hmid]
  have he : ∀ b o, s.heap.get? b = some o → h₂.get? b = some o := fun b o e => hk b o (Nat.ne_of_lt (Heap.lt_size e)) (hs₁.extBut b o (Nat.ne_of_lt (Heap.lt_size e)) (Heap.get?_push_of_some _ e))
  exact wpAny_bind (wpAny_newList (wpAny_pure (h h₂ _ he)) (by rw [List.length_take, hrl]; omega))
theorem starL_items {l : Addr} {items : Array Value} {n i : Nat} {Q : List Value → Shared → Prop} (hl : s.heap.IsList l items) (hh : A.handled = none) (hi : i < n) (hn : n ≤ items.size + 1) (hz : items.size ≤ sizeLine)
    (h : ∀ (h' : Heap) (tk : Nat), (∀ b o, s.heap.get? b = some o → h'.get? b = some o) → Q (items.toList.take i ++ [.ref h'.objs.size] ++ (items.toList.drop i).drop (items.size + 1 - n)) { s with heap := h'.push { cls := .type "list", data := .seq ((items.toList.drop i).take (items.size + 1 - n)).toArray }, toks := tk }) :
    wpAny (model prog w) A (unpackItems (.ref l) n (some i)) Q E s := by
  have hlt : l ≠ s.heap.objs.size := by obtain ⟨o, ho, _⟩ := hl; exact Nat.ne_of_lt (Heap.lt_size ho)
  unfold unpackItems
  refine wpAny_bind ?_
  unfold notIterableAtAll
  refine wpAny_bind (wpAny_specialOf hl.typeIs slot_list_iter.lookup ?_)
  refine wpAny_pure ?_
  simp only [Bool.false_eq_true, if_false]
  refine wpAny_bind (wpAny_holding (wpAny_pyIter_list hl ?_))
  refine wpAny_bind (wpAny_holding (kun_draw hlt i 0 _ _ ⟨_, Heap.get?_push_size _ rfl, rfl, rfl⟩ (hl.push _) (by omega) fun h₁ hit₁ hs₁ => ?_))
  have hl₁ : h₁.IsList l items := (hl.push _).extBut hs₁.extBut hlt
  rw [Nat.zero_add] at hit₁
  have hit₁' := hit₁
  obtain ⟨oi, hoi, _⟩ := hit₁'
  have hl₁' := hl₁
  obtain ⟨ol, hol, _⟩ := hl₁'
  rw [List.drop_zero]
  have hfl : (items.toList.take i).length = i := by rw [List.length_take, Array.length_toList]; omega
  rw [if_neg (show ¬ ((items.toList.take i).length < i) by rw [hfl]; omega)]
  refine wpAny_bind (wpAny_holding (kun_collect (s := { s with heap := h₁ }) (T := "list_iterator") (.inr (.inr (.inl rfl))) (Walks.list (A := A.in1) hh s.heap.objs.size l hlt items) (fun j u st => st.1.typeIs) (k := i) (by omega) ⟨hit₁, hl₁⟩ (Heap.lt_size hoi) (Heap.lt_size hol) (fun h₂ tk hk => ?_) hz))
  have hrl : (items.toList.drop i).length = items.size - i := by rw [List.length_drop, Array.length_toList]
  have hmid : (items.toList.drop i).length - (n - 1 - i) = items.size + 1 - n := by rw [hrl]; omega
  show wpAny _ _ (if (items.toList.drop i).length < n - 1 - i then _ else _) _ _ _
  rw [if_neg (by rw [hrl]; omega)]
  show wpAny _ _ (newList ((items.toList.drop i).take ((items.toList.drop i).length - (n - 1 - i))) >>= fun d => pure (items.toList.take i ++ [d] ++ (items.toList.drop i).drop ((items.toList.drop i).length - (n - 1 - i)))) _ _ _
  rw [hmid]
  have he : ∀ b o, s.heap.get? b = some o → h₂.get? b = some o := fun b o e => hk b o (Nat.ne_of_lt (Heap.lt_size e)) (hs₁.extBut b o (Nat.ne_of_lt (Heap.lt_size e)) (Heap.get?_push_of_some _ e))
  exact wpAny_bind (wpAny_newList (wpAny_pure (h h₂ _ he)) (by rw [List.length_take, hrl]; omega))
end
/-- a, *b, c = a tuple or a list: the star at place i of n -/
def gStar (K : PySem.W.Frag) (n i : Nat) (t : TGs) : TG := fun v σ H Q => ∃ a xs, v = .ref a ∧ (SqT K H a xs ∨ SqL K H a xs) ∧ n ≤ xs.length + 1 ∧ ∀ q, H q = none →
  t (xs.take i ++ [.ref q] ++ (xs.drop i).drop (xs.length + 1 - n)) σ (upd H q (.lst ((xs.drop i).take (xs.length + 1 - n)))) Q
section
variable {X : Cx} {pos : Pos}
theorem vals_app : ∀ {xs : List V} {us : List Value} {ys : List V} {ws : List Value}, Vals xs us → Vals ys ws → Vals (xs ++ ys) (us ++ ws)
  | _, _, _, _, .nil, h => h
  | _, _, _, _, .cons a r, h => .cons a (vals_app r h)
theorem vals_takeD : ∀ {xs : List V} {us : List Value} (n : Nat), Vals xs us → Vals (xs.take n) (us.take n)
  | _, _, 0, _ => .nil
  | _, _, _ + 1, .nil => .nil
  | _, _, n + 1, .cons a r => .cons a (vals_takeD n r)
theorem vals_dropD : ∀ {xs : List V} {us : List Value} (n : Nat), Vals xs us → Vals (xs.drop n) (us.drop n)
  | _, _, 0, h => h
  | _, _, _ + 1, .nil => .nil
  | _, _, n + 1, .cons a r => vals_dropD n r
theorem pg_star {es : List Expr} {k : Nat} {t : TGs} {n i : Nat} (hc : X.calm = true) (h : PGs X es t)
    (hn : (assignEach es X.env).length = n := by rfl) (hst : (assignEach es X.env).findIdx? (·.1) = some i := by rfl) (hi : i < n := by decide) : PG X (.Tuple es k pos) (gStar X.K n i t) := by
  refine ⟨fun pins s σ H v u Q I r hw => ?_⟩
  obtain ⟨a, xs, e1, hq, hl, hw⟩ := hw
  subst e1
  cases r
  rw [PyProof.Rows.assign_Tuple]
  refine wpAny_bind (wpAny_standAt ?_)
  unfold unpack
  rw [hn, hst]
  rcases hq with hq | hq
  · obtain ⟨its, rv, ht, hz⟩ := I.tuple hq
    have ln : xs.length = its.toArray.size := by simp [rv.length]
    refine wpAny_bind (wpAny_holding (starT_items ht (I.ok.hd hc) hi (by rw [← ln]; exact hl) (by rw [← ln]; exact hz) fun h' tk hx => ?_))
    have I1 : Inv X pins σ H { s with heap := h', toks := tk } := I.kept (t' := tk) hx
    have rm : Vals ((xs.drop i).take (xs.length + 1 - n)) ((its.toArray.toList.drop i).take (its.toArray.size + 1 - n)) := by
      rw [ln]; exact vals_takeD _ (vals_dropD _ (by simpa using rv))
    have I2 := I1.lnew (t' := tk) rm (by rw [List.length_take, List.length_drop]; omega)
    refine h.run pins _ σ _ _ _ Q I2 ?_ (hw _ I1.fresh)
    rw [ln]
    exact vals_app (vals_app (vals_takeD _ (by simpa using rv)) (.cons rfl .nil)) (vals_dropD _ (vals_dropD _ (by simpa using rv)))
  · obtain ⟨its, rv, pl, hz⟩ := I.list hq
    have ht := pl.isList
    have ln : xs.length = its.toArray.size := by simp [rv.length]
    refine wpAny_bind (wpAny_holding (starL_items ht (I.ok.hd hc) hi (by rw [← ln]; exact hl) (by rw [← ln]; exact hz) fun h' tk hx => ?_))
    have I1 : Inv X pins σ H { s with heap := h', toks := tk } := I.kept (t' := tk) hx
    have rm : Vals ((xs.drop i).take (xs.length + 1 - n)) ((its.toArray.toList.drop i).take (its.toArray.size + 1 - n)) := by
      rw [ln]; exact vals_takeD _ (vals_dropD _ (by simpa using rv))
    have I2 := I1.lnew (t' := tk) rm (by rw [List.length_take, List.length_drop]; omega)
    refine h.run pins _ σ _ _ _ Q I2 ?_ (hw _ I1.fresh)
    rw [ln]
    exact vals_app (vals_app (vals_takeD _ (by simpa using rv)) (.cons rfl .nil)) (vals_dropD _ (vals_dropD _ (by simpa using rv)))
theorem pgs_star {e : Expr} {es : List Expr} {t : TG} {u : TGs} {p : Pos} (h1 : PG X e t) (h2 : PGs X es u)
    (hs : (assignEach (.Starred e p :: es) X.env).map (·.2) = assign e X.env :: (assignEach es X.env).map (·.2) := by rfl) : PGs X (.Starred e p :: es) (gCons t u) := by
  refine ⟨fun pins s σ H vs us Q I r h => ?_⟩
  obtain ⟨v, vr, e1, h⟩ := h
  subst e1
  cases r with
  | cons r rr =>
    rw [hs]
    refine assignInOrder_cons (thn (h1.run pins s σ H _ _ _ I r h) fun _ s1 ⟨σ1, H1, I1, q1⟩ => ?_)
    exact h2.run pins s1 σ1 H1 _ _ Q I1 rr q1
theorem pg_starK {K : PySem.W.Frag} {es : List Expr} {k : Nat} {t : TGs} {n i : Nat} (e : X.K = K) (hc : X.calm = true) (h : PGs X es t)
    (hn : (assignEach es X.env).length = n := by rfl) (hst : (assignEach es X.env).findIdx? (·.1) = some i := by rfl) (hi : i < n := by decide) : PG X (.Tuple es k pos) (gStar K n i t) := by
  subst e; exact pg_star hc h hn hst hi
end
end L2
namespace Dx
open PySem PySem.Spec PyProof.Rows L2 Hx
namespace G
def star (n i : Nat) (gs : GMs) : GM
  | .tup ds, ρ => if n ≤ ds.length + 1 then gs (ds.take i ++ [.lst ((ds.drop i).take (ds.length + 1 - n))] ++ (ds.drop i).drop (ds.length + 1 - n)) ρ else none
  | .lst ds, ρ => if n ≤ ds.length + 1 then gs (ds.take i ++ [.lst ((ds.drop i).take (ds.length + 1 - n))] ++ (ds.drop i).drop (ds.length + 1 - n)) ρ else none
  | _, _ => none
end G
section
variable {K : PySem.W.Frag} {mg : Str → Option Value} {c : Ctx K mg} {wx : WX} {X : Cx} {e : Expr}
theorem pd_gstar {ns : List Nat} {n i : Nat} {gs : GMs} (h : PG X e (gStar c.K n i (liftGs c ns gs))) : PG X e (liftG c ns (G.star n i gs)) := pgI h fun v σ H Q ⟨F, ρ, d, R, r, p⟩ => by
  have fin : ∀ (vs : List V) (ds : List D) (q : Addr), RdL c.K c.mg F vs ds → H q = none → (match gs (ds.take i ++ [.lst ((ds.drop i).take (ds.length + 1 - n))] ++ (ds.drop i).drop (ds.length + 1 - n)) ρ with
      | some ρ' => ∀ σ' F' H', Same F F' → Rs c F' σ' H' ρ' → (∀ i, i ∉ ns → σ'[i]? = σ[i]?) → σ'.length = σ.length → Q σ' H'
      | none => False) → liftGs c ns gs (vs.take i ++ [.ref q] ++ (vs.drop i).drop (vs.length + 1 - n)) σ (upd H q (.lst ((vs.drop i).take (vs.length + 1 - n)))) Q := fun vs ds q rl nq p => by
    rw [← rl.len] at p
    have a := Adv.put (o := .lst ((vs.drop i).take (vs.length + 1 - n))) R.up nq
    have rl' := rl.up a.ff
    refine ⟨_, ρ, _, R.adv a, ((rl'.takeD i).app (.one (.lst upd_same ((rl'.dropD i).takeD _)))).app ((rl'.dropD i).dropD _), ?_⟩
    split at p
    · rename_i ρ' e
      first
        | exact fun σ' F' H' s' => p σ' F' H' (a.ff.trans s')
        | (rw [e]; exact fun σ' F' H' s' => p σ' F' H' (a.ff.trans s'))
    · exact p.elim
  cases d with
  | tup ds =>
    dsimp only [G.star] at p
    by_cases l : n ≤ ds.length + 1
    · rw [if_pos l] at p
      obtain ⟨a, vs, rfl, hs, rl⟩ := r.inv_tup
      exact ⟨a, vs, rfl, .inl (st_of (R.up.tup hs)), by rw [rl.len]; exact l, fun q nq => fin vs ds q rl nq p⟩
    · rw [if_neg l] at p; exact p.elim
  | lst ds =>
    dsimp only [G.star] at p
    by_cases l : n ≤ ds.length + 1
    · rw [if_pos l] at p
      obtain ⟨a, vs, rfl, hs, rl⟩ := r.inv_lst
      exact ⟨a, vs, rfl, .inr (sq_of (R.up.lst hs)), by rw [rl.len]; exact l, fun q nq => fin vs ds q rl nq p⟩
    · rw [if_neg l] at p; exact p.elim
  | _ => exact p.elim
end
/-! ## a call whose first argument, a list that nobody holds, is written to and let go -/
namespace E
def caF (m : List D → List D → Fr) : W → Env → Z W
  | .f ds, ρ => frW (m ds []) ρ
  | _, _ => .bad
@[simp] def callF (m : List D → List D → Fr) (a : EM) (ρ : Env) : Z W := (a ρ).bind fun w ρ1 => caF m w ρ1
end E
section
variable {K : PySem.W.Frag} {mg : Str → Option Value} {c : Ctx K mg} {wx : WX} {ma : EM}
theorem Rs.advF {F H F' H' : Hp} {σ : L2.St} {ρ : Env} {p : Addr} (R : Rs c F σ H ρ) (np : F p = none) (f0 : Fresh c p) (no : ∀ i, ¬ Ft σ H ρ i p) (a : AdvI (fun q => q = p) F H F' H') : Rs c F' σ H' ρ ∧ ∀ i q, Ft σ H' ρ i q → Ft σ H ρ i q := by
  have k : ∀ j s, ρ[j]? = some s → ∀ q o, FtS σ H j s q → H q = some o → notTup o → F q = none → H' q = some o ∧ F' q = none := fun j s e q o hq ho t nf => ⟨a.hh q o (fun z => no j (by subst z; exact ⟨s, e, hq⟩)) ho, a.keepN nf ho t⟩
  refine ⟨R.gen0 (R.toHk.advI a fun q z => by subst z; exact ⟨np, .inl f0.1, f0.2⟩) a.ff fun j q o ⟨s, e, hq⟩ ho t nf => k j s e q o hq ho t nf, fun i q ⟨s, e, h⟩ => ⟨s, e, (((R.sl i s e).keep (σ' := σ) a.ff rfl (k i s e)).2 q).1 h⟩⟩
theorem lift_callF {m : List D → List D → Fr} (σ : L2.St) (H : Hp) (Q : VK) (h : liftE c wx (E.callF m ma) σ H Q) : tCallE (spI c.K c.mg 0 m) wx (tCons (liftE c wx ma) tNil) σ H Q := by
  obtain ⟨F, ρ, R, p⟩ := h
  refine ⟨F, ρ, R, p.bnd.im fun w ρ1 p x F1 H1 s1 R1 r1 => ?_⟩
  cases w with
  | f zs =>
    obtain ⟨q, vs, rfl, nq, f0, hq, rq, no⟩ := r1
    refine ⟨rfl, F1, q, [], vs, zs, [], rfl, R1.up, nq, hq, rq, .nil, ?_⟩
    dsimp only [E.caF, E.frW] at p
    cases em : m zs [] with
    | bad => rw [em] at p; exact p.elim
    | ex cn fs io =>
      rw [em] at p
      exact fun C dd fsV F' H' ws hm a hd r hp rp => p C dd fsV F' H' σ hm (s1.trans a.ff) (R1.advF nq f0 no a).1 hd r
    | ok wv io =>
      rw [em] at p
      intro x F' H' ws a r hp rp
      obtain ⟨R3, back⟩ := R1.advF nq f0 no a
      have tw := r.toW R1 fun j q h _ => .inl (back j q h)
      cases wv with
      | o i => exact p.elim
      | t d => exact p x F' H' (s1.trans a.ff) R3 r
      | f zs => exact p x F' H' (s1.trans a.ff) R3 tw
      | g b es => exact p x F' H' (s1.trans a.ff) R3 tw
      | u t => exact p x F' H' (s1.trans a.ff) R3 tw
  | _ => exact p.elim
theorem pd_callF {X : Cx} {e : Expr} {m : List D → List D → Fr} (h : PE X e (tCallE (spI c.K c.mg 0 m) wx (tCons (liftE c wx ma) tNil))) : PE X e (liftE c wx (E.callF m ma)) := pd_of h lift_callF
end
/-! ## a call without arguments -/
section
variable {X : Cx} {K : PySem.W.Frag} {mg : Str → Option Value} {c : Ctx K mg} {wx : WX}
theorem pc_try0 {k : Nat} {f : Addr} {fd : FuncData} {ps : List Str} {sp : Sp} {x : Str} {p pos : Pos} {W : WX} (F : FnG X.prog X.w X.K X.mg X.base (L2.CX X.prog X.w) k f fd ps sp) (hr : RoomG k X.A) (hg : Gl X x) (hm : X.mg x = some (.ref f)) (kp : PySem.W.keepIn X.K (.ref f) = true) (hb : Binds X.K fd ps []) (tk : Takes X W)
    (n2 : (x == ("__debug__" : Str)) = false := by decide) : PE X (.Call (.Name x p) [] [] pos) (tCallE sp W tNil) := by
  refine ⟨fun pins s σ H Q I h => wpAny_Call_Name_kw (ld_glob I hg hm ?_ n2)⟩
  refine PySem.W.callWith_K0 I.kIn kp (into (given := ⟨[], []⟩) (us := []) F hr (fun e s' c => passAt tk σ pins H s e s' I c) I (fun n => ?_) .nil h)
  exact hb s [] I.kIn n
theorem pd_call0 {e : Expr} {m : List D → Fr} (h : PE X e (tCallE (spP c.K c.mg 0 m) wx tNil)) : PE X e (liftE c wx (E.call 0 m A.nil)) := pd_of h fun σ H Q q => by
  obtain ⟨F, ρ, R, p⟩ := lift_call σ H Q q
  exact p [] F H (Same.refl F) R .nil
end
/-! ## calls with keywords: g puts the values into the parameters' order -/
def tCallKE (sp : Sp) (gV : List V → List V → List V) (W : WX) (ta tk : TA) : TE := fun σ H Q => ta σ H fun vs G => tk σ G fun zs J => sp (gV vs zs) J Q fun cls d J' => W cls d σ J'
section
variable {X : Cx} {k : Nat} {f : Addr} {fd : FuncData} {ps ks : List Str} {sp : Sp} {x : Str} {p pos : Pos} {e : Expr} {es : List Expr} {kws : List Keyword} {ta tk : TA} {g : List Value → List Value → List Value} {gV : List V → List V → List V} {W : WX}
theorem pc_kwT (F : FnG X.prog X.w X.K X.mg X.base (L2.CX X.prog X.w) k f fd ps sp) (hr : RoomG k X.A) (hg : Gl X x) (hm : X.mg x = some (.ref f)) (kp : PySem.W.keepIn X.K (.ref f) = true) (hb : KBinds X.K fd ps ks g gV) (tkW : Takes X W) (hk : PK X kws tk)
    (all : (backToKw pos (keywordEach kws X.env)).all (·.1.isSome) = true := by rfl) (nms : (backToKw pos (keywordEach kws X.env)).filterMap (·.1) = ks := by rfl) (n2 : (x == ("__debug__" : Str)) = false := by decide)
    (pl : ((backTo pos (starEach [] X.env)).any (·.1) || (backToKw pos (keywordEach kws X.env)).any (·.1.isNone)) = false := by rfl) : PE X (.Call (.Name x p) [] kws pos) (tCallKE sp gV W tNil tk) := by
  refine ⟨fun pins s σ H Q I h => wpAny_Call_Name_kw (ld_glob I hg hm ?_ n2)⟩
  refine PySem.W.callWith_KW0 (h₀ := X.base) I.ok.mod.kin kp all ?_ pl
  refine thn (hk.run pos pins s σ H _ I h) fun ws s2 hh => ?_
  obtain ⟨zs, G, J, rz, q⟩ := hh
  refine ⟨J.kIn, ?_⟩
  rw [nms]
  exact into (given := ⟨[], ks.zip ws⟩) (us := g [] ws) F hr (fun e s' c => passAt tkW σ pins G s2 e s' J c) J (fun n => hb.to s2 [] ws J.kIn n) (hb.rel .nil rz) q
theorem pc_mixT (F : FnG X.prog X.w X.K X.mg X.base (L2.CX X.prog X.w) k f fd ps sp) (hr : RoomG k X.A) (hg : Gl X x) (hm : X.mg x = some (.ref f)) (kp : PySem.W.keepIn X.K (.ref f) = true) (hb : KBinds X.K fd ps ks g gV) (tkW : Takes X W) (ha : PA X (e :: es) ta) (hk : PK X kws tk)
    (all : (backToKw pos (keywordEach kws X.env)).all (·.1.isSome) = true := by rfl) (nms : (backToKw pos (keywordEach kws X.env)).filterMap (·.1) = ks := by rfl) (n2 : (x == ("__debug__" : Str)) = false := by decide)
    (he : starEach (e :: es) X.env = (false, eval e X.env) :: starEach es X.env := by rfl)
    (pl : ((backTo pos (starEach (e :: es) X.env)).any (·.1) || (backToKw pos (keywordEach kws X.env)).any (·.1.isNone)) = false := by rfl) : PE X (.Call (.Name x p) (e :: es) kws pos) (tCallKE sp gV W ta tk) := by
  refine ⟨fun pins s σ H Q I h => wpAny_Call_Name_kw (ld_glob I hg hm ?_ n2)⟩
  refine PySem.W.callWith_KW (h₀ := X.base) I.ok.mod.kin kp all (thn (ha.run pos pins s σ H _ I h) fun us s1 h1 => ?_) pl he
  obtain ⟨vs, G1, J1, r1, q1⟩ := h1
  refine thn (hk.run pos pins s1 σ G1 _ J1 q1) fun ws s2 hh => ?_
  obtain ⟨zs, G, J, rz, q⟩ := hh
  refine ⟨J.kIn, ?_⟩
  rw [nms]
  exact into (given := ⟨us, ks.zip ws⟩) (us := g us ws) F hr (fun e s' c => passAt tkW σ pins G s2 e s' J c) J (fun n => hb.to s2 us ws J.kIn n) (hb.rel r1 rz) q
end
theorem pkI {X : Cx} {kws : List Keyword} {t t' : TA} (h : PK X kws t) (i : ∀ σ H Q, t' σ H Q → t σ H Q) : PK X kws t' := ⟨fun pos pins s σ H Q I q => h.run pos pins s σ H Q I (i σ H Q q)⟩
namespace E
@[simp] def callK (n : Nat) (m : List D → Fr) (g : List D → List D → List D) (a b : AM) (ρ : Env) : Z W := (a ρ).bind fun ws1 ρ1 => (b ρ1).bind fun ws2 ρ2 => (fzs (ws1 ++ ws2) ρ2).bind fun ds ρ3 =>
  if (g (ds.take ws1.length) (ds.drop ws1.length)).length = n then frW (m (g (ds.take ws1.length) (ds.drop ws1.length))) ρ3 else .bad
end E
section
variable {X : Cx} {K : PySem.W.Frag} {mg : Str → Option Value} {c : Ctx K mg} {wx : WX} {ma mb : AM}
theorem pd_knil {kws : List Keyword} (h : PK X kws tNil) : PK X kws (liftA c wx A.nil) := pkI h fun σ H Q ⟨F, ρ, R, p⟩ => p [] F H (Same.refl F) R .nil
theorem pd_kcons {me : EM} {kws : List Keyword} (h : PK X kws (tCons (liftE c wx me) (liftA c wx mb))) : PK X kws (liftA c wx (A.cons me mb)) := pkI h lift_cons
theorem RdWs.app {F H : Hp} {σ : L2.St} {ρ : Env} : ∀ {xs ys : List V} {ws us : List W}, RdWs c F σ H ρ xs ws → RdWs c F σ H ρ ys us → RdWs c F σ H ρ (xs ++ ys) (ws ++ us)
  | _, _, _, _, .nil, h => h
  | _, _, _, _, .cons e a r, h => .cons e a (RdWs.app r h)
theorem lift_callK {n : Nat} {m : List D → Fr} {g : List D → List D → List D} {gV : List V → List V → List V} (hg : ∀ {F : Hp} {vs zs : List V} {ds es : List D}, RdL K mg F vs ds → RdL K mg F zs es → RdL K mg F (gV vs zs) (g ds es))
    (σ : L2.St) (H : Hp) (Q : VK) (h : liftE c wx (E.callK n m g ma mb) σ H Q) : tCallKE (spP c.K c.mg n m) gV wx (liftA c wx ma) (liftA c wx mb) σ H Q := by
  obtain ⟨F, ρ, R, p⟩ := h
  refine ⟨F, ρ, R, p.bnd.im fun ws1 ρ1 p xs F1 H1 s1 R1 r1 => ⟨F1, ρ1, R1, Pst.up s1 p.bnd fun ws2 ρ2 p zs F2 H2 s2 R2 r2 => ?_⟩⟩
  cases e : fzs (ws1 ++ ws2) ρ2 with
  | bad => rw [e] at p; exact p.elim
  | ex _ _ _ => exact absurd e fzs_ne
  | ok ds ρ3 =>
    rw [e] at p
    obtain ⟨F3, s3, R3, r3⟩ := fzs_ok (ρ0 := ρ2) R2 (RdWs.app (RdWs.up s2 r1) r2) e
    have lx := r1.len
    have rt := r3.takeD ws1.length
    have rd := r3.dropD ws1.length
    rw [← lx, List.take_left, lx] at rt
    rw [← lx, List.drop_left, lx] at rd
    have rg := hg rt rd
    have p : Pst c wx F σ (if (g (ds.take ws1.length) (ds.drop ws1.length)).length = n then E.frW (m (g (ds.take ws1.length) (ds.drop ws1.length))) ρ3 else .bad) _ := p
    generalize g (ds.take ws1.length) (ds.drop ws1.length) = es at rg p
    have s03 := (s1.trans s2).trans s3
    by_cases l : es.length = n
    · rw [if_pos l] at p
      refine ⟨by rw [rg.len]; exact l, F3, es, R3.up, rg, ?_⟩
      dsimp only [E.frW] at p
      cases em : m es with
      | bad => rw [em] at p; exact p.elim
      | ex cn fs io =>
        rw [em] at p
        exact fun C dd fsV F' H' hm a hd r => p C dd fsV F' H' σ hm (s03.trans a.ff) (R3.adv a) hd r
      | ok w io =>
        rw [em] at p
        intro x F' H' a r
        cases w with
        | o i => exact p.elim
        | t d => exact p x F' H' (s03.trans a.ff) (R3.adv a) r
        | f zs => exact p x F' H' (s03.trans a.ff) (R3.adv a) (r.toW0 R3 a)
        | g b es => exact p x F' H' (s03.trans a.ff) (R3.adv a) (r.toW0 R3 a)
        | u t => exact p x F' H' (s03.trans a.ff) (R3.adv a) (r.toW0 R3 a)
    · rw [if_neg l] at p; exact p.elim
theorem pd_callK {e : Expr} {n : Nat} {m : List D → Fr} {g : List D → List D → List D} {gV : List V → List V → List V} (hg : ∀ {F : Hp} {vs zs : List V} {ds es : List D}, RdL K mg F vs ds → RdL K mg F zs es → RdL K mg F (gV vs zs) (g ds es))
    (h : PE X e (tCallKE (spP c.K c.mg n m) gV wx (liftA c wx ma) (liftA c wx mb))) : PE X e (liftE c wx (E.callK n m g ma mb)) := pd_of h (lift_callK hg)
theorem pd_callK0 {e : Expr} {n : Nat} {m : List D → Fr} {g : List D → List D → List D} {gV : List V → List V → List V} (hg : ∀ {F : Hp} {vs zs : List V} {ds es : List D}, RdL K mg F vs ds → RdL K mg F zs es → RdL K mg F (gV vs zs) (g ds es))
    (h : PE X e (tCallKE (spP c.K c.mg n m) gV wx tNil (liftA c wx mb))) : PE X e (liftE c wx (E.callK n m g A.nil mb)) := pd_of h fun σ H Q q => by
  obtain ⟨F, ρ, R, p⟩ := lift_callK (ma := A.nil) hg σ H Q q
  exact p [] F H (Same.refl F) R .nil
end
end Dx

namespace Dx
open PySem PySem.Spec PyProof.Rows L2 Hx
/-! ## try: .. except A as e: .. -/
def nxe : Slot → Bool
  | .xe _ _ => false
  | _ => true
/-- a clause: the classes that it takes (of the known ones), the name's slot, the suite -/
abbrev Cz := List Str × Option Nat × SM
def clS : Sig → Env → Z Sig
  | .nx, ρ => .ok .nx ρ
  | .bk, ρ => .ok .bk ρ
  | .ct, ρ => .ok .ct ρ
  | .rt (.t d), ρ => .ok (.rt (.t d)) ρ
  | .rt (.f ds), ρ => .ok (.rt (.f ds)) ρ
  | .rt (.g b es), ρ => .ok (.rt (.g b es)) ρ
  | .rt (.u t), ρ => .ok (.rt (.u t)) ρ
  | .rt (.o _), _ => .bad
def hdB (cn : Str) (fs : List (Str × D)) (h : SM) : Option Nat → Env → Z Sig
  | none, ρ => if ρ.all nxe = true then (noX (h ρ)).bind fun sg ρ2 => if ρ2.all nxe = true then clS sg ρ2 else .bad else .bad
  | some i, ρ => if ρ.all nxe = true then (noX (h (ρ.set i (.xe cn fs)))).bind fun sg ρ2 => if (ρ2.set i .un).all nxe = true then clS sg (ρ2.set i .un) else .bad else .bad
@[simp] def hdR (cn : Str) (fs : List (Str × D)) (ρ : Env) : List Cz → Z Sig
  | [] => .ex cn fs ρ
  | (l, oi, h) :: hs => if cn ∈ l then hdB cn fs h oi ρ else hdR cn fs ρ hs
def trR (al : List Str) (hs : List Cz) : Z Sig → Z Sig
  | .ok sg ρ => .ok sg ρ
  | .ex cn fs ρ => if cn ∈ al then hdR cn fs ρ hs else .bad
  | .bad => .bad
@[simp] def S.tryS (al : List Str) (b : SM) (hs : List Cz) (ρ : Env) : Z Sig := trR al hs (b ρ)
def xfR (cn f : Str) : Option Slot → Env → Z W
  | some (.xe c fs), ρ => if c = cn then toW ((fs.lookup f).map .t) ρ else .bad
  | _, _ => .bad
@[simp] def E.xf (cn f : Str) (i : Nat) (ρ : Env) : Z W := xfR cn f ρ[i]? ρ
def isxR (cn : Str) (ans : Bool) : Option Slot → Env → Z W
  | some (.xe c _), ρ => if c = cn then .ok (.t (.bl ans)) ρ else .bad
  | _, _ => .bad
@[simp] def E.isx (cn : Str) (ans : Bool) (i : Nat) (ρ : Env) : Z W := isxR cn ans ρ[i]? ρ
def xaOf (a : Addr) : Value → Option Addr → Option (Addr × Addr × Addr)
  | .ref C, some dd => some (a, C, dd)
  | _, _ => none
abbrev Ctx.wx {K : PySem.W.Frag} {mg : Str → Option Value} (c : Ctx K mg) (y : Option (Addr × Addr × Addr)) : Ctx K mg := { c with xa := y }
abbrev Ctx.caught {K : PySem.W.Frag} {mg : Str → Option Value} (c : Ctx K mg) (a : Addr) (cls : Value) (d : Option Addr) : Ctx K mg := c.wx (xaOf a cls d)
section
variable {K : PySem.W.Frag} {mg : Str → Option Value} {c : Ctx K mg} {wx : WX} {F H : Hp} {σ : L2.St} {ρ : Env} {y : Option (Addr × Addr × Addr)}
theorem nxe_at {i : Nat} {s : Slot} (h : ρ.all nxe = true) (e : ρ[i]? = some s) : nxe s = true := List.all_eq_true.mp h s (List.mem_of_getElem? e)
theorem clS_ok {α : Prop} {sg : Sig} {ρ2 : Env} {F0 : Hp} {D : Ends} (h : Pst c wx F0 σ (clS sg ρ2) fun sg ρ' => SgP c F0 ρ' D sg) : SgP c F0 ρ2 D sg ∧ ∀ j, sg ≠ .rt (.o j) := by
  cases sg with
  | rt w => cases w with
    | o j => exact h.elim
    | _ => exact ⟨h, fun _ => nofun⟩
  | _ => exact ⟨h, fun _ => nofun⟩
theorem RdS.xa {i : Nat} {s : Slot} (n : nxe s = true) : RdS (c.wx y) F σ H i s ↔ RdS c F σ H i s := by
  cases s with
  | xe _ _ => cases n
  | un => exact Iff.rfl
  | tr d => exact Iff.rfl
  | ol o ds => exact Iff.rfl
  | od b es => exact Iff.rfl
  | ob m t => cases m <;> exact Iff.rfl
theorem Rs.xa (n : ρ.all nxe = true) : Rs (c.wx y) F σ H ρ ↔ Rs c F σ H ρ :=
  ⟨fun R => ⟨⟨R.up, R.up0, R.fr, R.nw, R.ioH, R.io0, R.pr, R.lk, R.st⟩, R.len, fun i s e => (RdS.xa (nxe_at n e)).1 (R.sl i s e), R.dj⟩,
   fun R => ⟨⟨R.up, R.up0, R.fr, R.nw, R.ioH, R.io0, R.pr, R.lk, R.st⟩, R.len, fun i s e => (RdS.xa (nxe_at n e)).2 (R.sl i s e), R.dj⟩⟩
theorem RdW.xa {x : V} {w : W} : RdW (c.wx y) F σ H ρ x w ↔ RdW c F σ H ρ x w := by
  cases w <;> exact Iff.rfl
theorem Rs.setXe {i : Nat} {a C dd : Addr} {cn : Str} {fs : List (Str × D)} {fsV : List (Str × V)} (R : Rs c F σ H ρ) (xa : c.xa = some (a, C, dd)) (m : mg cn = some (.ref C)) (hd : F dd = some (.xd fsV)) (r : RdF K mg F fsV fs) : Rs c F (σ.set i (some (.ref a))) H (ρ.set i (.xe cn fs)) := by
  refine R.setOwn (fun l => ⟨a, C, dd, fsV, xa, List.getElem?_set_self (by rw [R.len]; exact l), m, hd, r⟩) fun q h => h.elim
theorem Rs.goneUn {i : Nat} {o : Option V} (R : Rs c F σ H ρ) : Rs c F (σ.set i o) H (ρ.set i .un) ∧ ∀ j q, Ft (σ.set i o) H (ρ.set i .un) j q → Ft σ H ρ j q := by
  have back : ∀ j q, Ft (σ.set i o) H (ρ.set i .un) j q → Ft σ H ρ j q := fun j q ⟨s, e, h⟩ => by
    by_cases ji : j = i
    · subst ji; obtain ⟨rfl, _⟩ := set_at e; exact h.elim
    · have e := (set_ne ji).1 e
      exact ⟨s, e, (((R.sl j s e).keep (Same.refl F) (List.getElem?_set_ne (Ne.symm ji)) fun q o _ ho _ n => ⟨ho, n⟩).2 q).1 h⟩
  refine ⟨⟨R.toHk, by rw [List.length_set, List.length_set]; exact R.len, fun j s e => ?_, fun j k q hj hk => R.dj j k q (back j q hj) (back k q hk)⟩, back⟩
  by_cases ji : j = i
  · subst ji; obtain ⟨rfl, _⟩ := set_at e; trivial
  · have e := (set_ne ji).1 e
    exact ((R.sl j s e).keep (Same.refl F) (List.getElem?_set_ne (Ne.symm ji)) fun q o _ ho _ n => ⟨ho, n⟩).1
theorem endAs_ok {i : Nat} {ρ2 : Env} {sg : Sig} {D : Ends} {z : Option (Addr × Addr × Addr)} {F0 : Hp} (s : Same F0 F) (nw : ∀ j, sg ≠ .rt (.o j)) (h : SgP c F0 (ρ2.set i .un) D sg) (n : (ρ2.set i .un).all nxe = true) : SgP (c.wx z) F ρ2 (endAs D i) sg := by
  have tr : ∀ {σ' : L2.St} {F' H' : Hp}, Rs (c.wx z) F' σ' H' ρ2 → Rs c F' (σ'.set i none) H' (ρ2.set i .un) := fun R => (Rs.xa n).1 R.goneUn.1
  cases sg with
  | nx => exact fun σ' F' H' s' R => h _ F' H' (s.trans s') (tr R)
  | bk => exact fun σ' F' H' s' R => h _ F' H' (s.trans s') (tr R)
  | ct => exact fun σ' F' H' s' R => h _ F' H' (s.trans s') (tr R)
  | rt w =>
    intro x σ' F' H' s' R r
    have r1 := RdW.xa.1 r
    have back := R.goneUn (i := i) (o := none)
    refine h x _ F' H' (s.trans s') (tr R) ?_
    cases w with
    | t d => exact r1
    | o j => exact absurd rfl (nw j)
    | f ds => obtain ⟨q, vs, e, n, f, hq, r, no⟩ := r1; exact ⟨q, vs, e, n, f, hq, r, fun j hj => no j (back.2 j q hj)⟩
    | g b es => obtain ⟨q, e, n, f, dc, no⟩ := r1; exact ⟨q, e, n, f, dc, fun j hj => no j (back.2 j q hj)⟩
    | u t => obtain ⟨ow, n⟩ := r1; exact ⟨ow, fun q hq => ⟨(n q hq).1, (n q hq).2.1, fun j hj => (n q hq).2.2 j (back.2 j q hj)⟩⟩
theorem SgP.xa {ρ2 : Env} {sg : Sig} {D : Ends} {F0 : Hp} (s : Same F0 F) (h : SgP c F0 ρ2 D sg) (n : ρ2.all nxe = true) : SgP (c.wx y) F ρ2 D sg := by
  cases sg with
  | nx => exact fun σ' F' H' s' R => h _ F' H' (s.trans s') ((Rs.xa n).1 R)
  | bk => exact fun σ' F' H' s' R => h _ F' H' (s.trans s') ((Rs.xa n).1 R)
  | ct => exact fun σ' F' H' s' R => h _ F' H' (s.trans s') ((Rs.xa n).1 R)
  | rt w => exact fun x σ' F' H' s' R r => h x _ F' H' (s.trans s') ((Rs.xa n).1 R) (RdW.xa.1 r)
/-- the clauses as they stand in the source and in the mirror -/
inductive ClR (K : PySem.W.Frag) (mg : Str → Option Value) (c : Ctx K mg) (al : List Str) : List Clause → List Cz → Prop
  | nil : ClR K mg c al [] []
  | cons {cv : Value} {oi : Option Nat} {l : List Str} {h : SM} {cs : List Clause} {hs : List Cz} (m : ∀ cn ∈ al, ∀ C, mg cn = some (.ref C) → PySem.W.exmOne K (.ref C) cv = some (decide (cn ∈ l))) (r : ClR K mg c al cs hs) :
    ClR K mg c al ((cv, oi, fun a cls d => liftS (c.caught a cls d) WF h) :: cs) ((l, oi, h) :: hs)
theorem lift_try {al : List Str} {mb : SM} {cs : List Clause} {hs : List Cz} (cl : ClR K mg c al cs hs) (D : Ends) (h : liftS c wx (S.tryS al mb hs) D σ H) : liftS c (wN K wx D cs) mb D σ H := by
  obtain ⟨F, ρ, R, p⟩ := h
  refine ⟨F, ρ, R, ?_⟩
  dsimp only [S.tryS] at p
  cases e : mb ρ with
  | bad => rw [e] at p; exact p.elim
  | ok sg ρ1 => rw [e] at p; exact p
  | ex cn fs ρ1 =>
    rw [e] at p
    dsimp only [trR] at p
    by_cases ca : cn ∈ al
    rotate_left
    · rw [if_neg ca] at p; exact p.elim
    rw [if_pos ca] at p
    intro C dd fsV F' H' σ' hm s' R' hd rf
    induction cl with
    | nil => exact p C dd fsV F' H' σ' hm s' R' hd rf
    | @cons cv oi l h cs hs m r ih =>
      refine ⟨_, m cn ca C hm, fun yes a na => ?_, fun no => ?_⟩
      · have ci : cn ∈ l := of_decide_eq_true yes
        rw [hdR, if_pos ci] at p
        cases oi with
        | none =>
          dsimp only [hdB] at p
          by_cases n0 : ρ1.all nxe = true
          rotate_left
          · rw [if_neg n0] at p; exact p.elim
          rw [if_pos n0] at p
          refine ⟨F', ρ1, (Rs.xa n0).2 R', ?_⟩
          cases eh : h ρ1 with
          | bad => rw [eh] at p; exact p.elim
          | ex _ _ _ => rw [eh] at p; exact p.elim
          | ok sg ρ2 =>
            rw [eh] at p
            dsimp only [noX, Z.bind] at p
            by_cases n2 : ρ2.all nxe = true
            rotate_left
            · rw [if_neg n2] at p; exact p.elim
            rw [if_pos n2] at p
            exact SgP.xa s' (clS_ok (α := True) p).1 n2
        | some i =>
          dsimp only [hdB] at p
          by_cases n0 : ρ1.all nxe = true
          rotate_left
          · rw [if_neg n0] at p; exact p.elim
          rw [if_pos n0] at p
          refine ⟨F', ρ1.set i (.xe cn fs), Rs.setXe ((Rs.xa (y := xaOf a (.ref C) (some dd)) n0).2 R') rfl hm hd rf, ?_⟩
          cases eh : h (ρ1.set i (.xe cn fs)) with
          | bad => rw [eh] at p; exact p.elim
          | ex _ _ _ => rw [eh] at p; exact p.elim
          | ok sg ρ2 =>
            rw [eh] at p
            dsimp only [noX, Z.bind] at p
            by_cases n2 : (ρ2.set i .un).all nxe = true
            rotate_left
            · rw [if_neg n2] at p; exact p.elim
            rw [if_pos n2] at p
            obtain ⟨p, nw⟩ := clS_ok (α := True) p
            exact endAs_ok s' nw p n2
      · have ci : cn ∉ l := of_decide_eq_false no
        rw [hdR, if_neg ci] at p
        exact ih p
theorem clm_nil {cv : Value} {l : List Str} : ∀ cn ∈ ([] : List Str), ∀ C, mg cn = some (.ref C) → PySem.W.exmOne K (.ref C) cv = some (decide (cn ∈ l)) := fun _ h => nomatch h
theorem clm_cons {cv : Value} {l al : List Str} {a : Str} {C0 : Addr} {b : Bool} (g : mg a = some (.ref C0)) (e : PySem.W.exmOne K (.ref C0) cv = some b) (r : ∀ cn ∈ al, ∀ C, mg cn = some (.ref C) → PySem.W.exmOne K (.ref C) cv = some (decide (cn ∈ l))) (hb : decide (a ∈ l) = b := by decide) :
    ∀ cn ∈ a :: al, ∀ C, mg cn = some (.ref C) → PySem.W.exmOne K (.ref C) cv = some (decide (cn ∈ l)) := fun cn h C m => by
  rcases List.mem_cons.mp h with z | z
  · subst z
    rw [g] at m; cases m
    rw [hb]; exact e
  · exact r cn z C m
theorem pd_try {X : Cx} {body : List Stmt} {h1 : ExceptHandler} {hs : List ExceptHandler} {cs : List Clause} {pos : Pos} {mb : SM} {al : List Str} {hz : List Cz} (hK : X.K = K) (st : X.stack = X.env :: X.outer) (fr : X.env.frame = some X.env.locals) (tk : Takes X wx)
    (hb : ∀ (W : WX) (pn : List (Addr × Obj)) (xe : Value → Shared → Prop), Takes (X.tr pn xe) W → PassesOwn (model X.prog X.w) X.A X.env xe → PSs (X.tr pn xe) body (liftS c W mb)) (hh : Hnd X (h1 :: hs) cs) (cl : ClR K mg c al cs hz) : PS X (.Try body (h1 :: hs) [] [] pos) (liftS c wx (S.tryS al mb hz)) := by
  subst hK
  exact psI (ps_tryN st fr tk (tb := fun W => liftS c W mb) hb hh) fun D σ H q => lift_try cl D q
theorem xa_of {a a' C' dd : Addr} {cls : Value} {d : Option Addr} (h : xaOf a cls d = some (a', C', dd)) : a' = a ∧ cls = .ref C' ∧ d = some dd := by
  cases cls <;> cases d <;> first | (cases h; exact ⟨rfl, rfl, rfl⟩) | cases h
theorem lift_xf {a C : Addr} {cls : Value} {d : Option Addr} {cn f : Str} {i : Nat} (hC : mg cn = some (.ref C)) (σ : L2.St) (H : Hp) (Q : VK) (h : liftE (c.caught a cls d) wx (E.xf cn f i) σ H Q) : L2.tXf a cls d C f (tVar i) σ H Q := by
  obtain ⟨F, ρ, R, p⟩ := h
  dsimp only [E.xf] at p
  cases e : ρ[i]? with
  | none => rw [e] at p; exact p.elim
  | some s =>
    rw [e] at p
    cases s with
    | xe c' fs =>
      dsimp only [xfR] at p
      by_cases ec : c' = cn
      rotate_left
      · rw [if_neg ec] at p; exact p.elim
      rw [if_pos ec] at p
      subst ec
      obtain ⟨a', C', dd, fsV, xa, es, hm, hd, rf⟩ := R.sl i _ e
      obtain ⟨rfl, rfl, rfl⟩ := xa_of xa
      have hm : mg c' = some (.ref C') := hm
      rw [hC] at hm; cases hm
      cases el : fs.lookup f with
      | none => rw [el] at p; exact p.elim
      | some dv =>
        rw [el] at p
        obtain ⟨v, ev, rv⟩ := rf.look el
        exact ⟨_, es, rfl, rfl, dd, fsV, v, rfl, R.up.xd hd, ev, p v F H (Same.refl F) R rv⟩
    | _ => exact p.elim
theorem pd_xf {X : Cx} {e : Expr} {a C : Addr} {cls : Value} {d : Option Addr} {cn f : Str} {i : Nat} (hC : mg cn = some (.ref C)) (h : PE X e (L2.tXf a cls d C f (tVar i))) : PE X e (liftE (c.caught a cls d) wx (E.xf cn f i)) := pd_of h (lift_xf hC)
theorem lift_isx {a C : Addr} {cls cv : Value} {d : Option Addr} {cn : Str} {i : Nat} {ans : Bool} {v : V} (hC : mg cn = some (.ref C)) (hv : ∀ u, RelV v u → u = cv) (hk : PySem.W.kitOne K (.ref C) cv = some ans) (σ : L2.St) (H : Hp) (Q : VK) (h : liftE (c.caught a cls d) wx (E.isx cn ans i) σ H Q) : tCB (rIsX K C a cls d) (tCons (tVar i) (tCons (tC v) tNil)) σ H Q := by
  obtain ⟨F, ρ, R, p⟩ := h
  dsimp only [E.isx] at p
  cases e : ρ[i]? with
  | none => rw [e] at p; exact p.elim
  | some s =>
    rw [e] at p
    cases s with
    | xe c' fs =>
      dsimp only [isxR] at p
      by_cases ec : c' = cn
      rotate_left
      · rw [if_neg ec] at p; exact p.elim
      rw [if_pos ec] at p
      subst ec
      obtain ⟨a', C', dd, fsV, xa, es, hm, hd, rf⟩ := R.sl i _ e
      obtain ⟨rfl, rfl, rfl⟩ := xa_of xa
      have hm : mg c' = some (.ref C') := hm
      rw [hC] at hm; cases hm
      exact ⟨_, es, v, cv, ans, dd, fsV, rfl, rfl, hv, hk, rfl, R.up.xd hd, p _ F H (Same.refl F) R (.bl ans)⟩
    | _ => exact p.elim
theorem pd_isx {X : Cx} {e : Expr} {a C : Addr} {cls cv : Value} {d : Option Addr} {cn : Str} {i : Nat} {ans : Bool} {v : V} (hC : mg cn = some (.ref C)) (hv : ∀ u, RelV v u → u = cv) (hk : PySem.W.kitOne K (.ref C) cv = some ans) (h : PE X e (tCB (rIsX K C a cls d) (tCons (tVar i) (tCons (tC v) tNil)))) : PE X e (liftE (c.caught a cls d) wx (E.isx cn ans i)) := pd_of h (lift_isx hC hv hk)
theorem relv_ty {n : String} : ∀ u, RelV (.ty n) u → u = .type n := fun _ h => h
theorem relv_ref {a : Addr} : ∀ u, RelV (.ref a) u → u = .ref a := fun _ h => h
end
end Dx

namespace Dx
open PySem PySem.Spec PyProof.Rows L2 Hx
/-! ## defs with own things for parameters: d a value, io an own thing to be written, ro one to be read -/
inductive Pm where | d | io | ro
section
variable (H : Hp)
/-- the cells of the own arguments -/
def FtA : List Pm → List V → List Tr → Addr → Prop
  | .d :: ks, _ :: vs, ts, q => FtA ks vs ts q
  | .io :: ks, v :: vs, t :: ts, q => ft H t v q ∨ FtA ks vs ts q
  | .ro :: ks, v :: vs, t :: ts, q => ft H t v q ∨ FtA ks vs ts q
  | _, _, _, _ => False
/-- .. of those to be written -/
def FtI : List Pm → List V → List Tr → Addr → Prop
  | .d :: ks, _ :: vs, ts, q => FtI ks vs ts q
  | .io :: ks, v :: vs, t :: ts, q => ft H t v q ∨ FtI ks vs ts q
  | .ro :: ks, _ :: vs, _ :: ts, q => FtI ks vs ts q
  | _, _, _, _ => False
end
section
variable (K : PySem.W.Frag) (mg : Str → Option Value)
inductive ArgO (F H : Hp) : List Pm → List V → List D → List Tr → Prop
  | nil : ArgO F H [] [] [] []
  | d {ks : List Pm} {v : V} {vs : List V} {d : D} {ds : List D} {ts : List Tr} : Rd K mg F v d → ArgO F H ks vs ds ts → ArgO F H (.d :: ks) (v :: vs) (d :: ds) ts
  | io {ks : List Pm} {a : Addr} {vs : List V} {ds : List D} {t : Tr} {ts : List Tr} : Ow K mg F H (.ref a) t → (∀ q, ft H t (.ref a) q → F q = none ∧ ¬ FtA H ks vs ts q) → ArgO F H ks vs ds ts → ArgO F H (.io :: ks) (.ref a :: vs) ds (t :: ts)
  | ro {ks : List Pm} {v : V} {vs : List V} {ds : List D} {t : Tr} {ts : List Tr} : Ow K mg F H v t → (∀ q, ft H t v q → F q = none ∧ ¬ FtA H ks vs ts q) → ArgO F H ks vs ds ts → ArgO F H (.ro :: ks) (v :: vs) ds (t :: ts)
inductive PostO (F' H H' : Hp) : List Pm → List V → List Tr → List Tr → Prop
  | nil : PostO F' H H' [] [] [] []
  | d {ks : List Pm} {v : V} {vs : List V} {ts us : List Tr} : PostO F' H H' ks vs ts us → PostO F' H H' (.d :: ks) (v :: vs) ts us
  | io {ks : List Pm} {v : V} {vs : List V} {t u : Tr} {ts us : List Tr} : Ow K mg F' H' v u → (∀ q, ft H' u v q → F' q = none ∧ (ft H t v q ∨ H q = none) ∧ ¬ FtI H' ks vs us q) → PostO F' H H' ks vs ts us → PostO F' H H' (.io :: ks) (v :: vs) (t :: ts) (u :: us)
  | ro {ks : List Pm} {v : V} {vs : List V} {t u : Tr} {ts us : List Tr} : PostO F' H H' ks vs ts us → PostO F' H H' (.ro :: ks) (v :: vs) (t :: ts) (u :: us)
def FrPostO (F H : Hp) (S : Addr → Prop) (ks : List Pm) (vs : List V) (ts0 : List Tr) (r : FrO) (Q : VK) (E : XK) : Prop :=
  match r with
  | .ok w ts => ∀ x F' H', AdvI S F H F' H' → RdR K mg F' H H' x w → PostO K mg F' H H' ks vs ts0 ts → (∀ q, CeW H' x w q → ¬ FtI H' ks vs ts q) → Q x H'
  | .ex cn fs ts => ∀ C dd fsV F' H', mg cn = some (.ref C) → AdvI S F H F' H' → F' dd = some (.xd fsV) → RdF K mg F' fsV fs → PostO K mg F' H H' ks vs ts0 ts → E (.ref C) (some dd) H'
  | .bad => False
def spO (ks : List Pm) (m : List D → List Tr → FrO) : Sp := fun vs H Q E => vs.length = ks.length ∧ ∃ F ds ts, Up F H ∧ ArgO K mg F H ks vs ds ts ∧ FrPostO K mg F H (FtI H ks vs ts) ks vs ts (m ds ts) Q E
end
/-! ### the caller's side -/
namespace E
def ownT : Pm → Option Slot → Option Tr
  | .io, some (.ob .mine t) => some t
  | .io, some (.ob (.io _) t) => some t
  | .io, some (.ol _ ds) => some (.l ds)
  | .io, some (.od b es) => some (.g b es)
  | .ro, some (.ob _ t) => some t
  | .ro, some (.ol _ ds) => some (.l ds)
  | .ro, some (.od b es) => some (.g b es)
  | .ro, some (.tr d) => some (.fz d)
  | _, _ => none
def isFz : Tr → Bool
  | .fz _ => true
  | _ => false
/-- the own arguments: their slots (none: a value), their contents -/
def tkO (ks : List Pm) (rest : List Pm → List W → Env → Option (List (Option Nat × Tr))) (ws : List W) (ρ : Env) (i : Nat) : Option Tr → Option (List (Option Nat × Tr))
  | some t => (rest ks ws ρ).map fun l => (some i, t) :: l
  | none => none
@[simp] def takeO : List Pm → List W → Env → Option (List (Option Nat × Tr))
  | [], [], _ => some []
  | .d :: ks, _ :: ws, ρ => takeO ks ws ρ
  | .io :: ks, .o i :: ws, ρ => match ownT .io ρ[i]? with
    | some t => if isFz t = true then none else (takeO ks ws ρ).map fun l => (some i, t) :: l
    | none => none
  | .ro :: ks, .o i :: ws, ρ => match ownT .ro ρ[i]? with
    | some t => (takeO ks ws ρ).map fun l => (some i, t) :: l
    | none => none
  | .ro :: ks, .t d :: ws, ρ => (takeO ks ws ρ).map fun l => (none, .fz d) :: l
  | _, _, _ => none
/-- the values are given away -/
@[simp] def fzD : List Pm → List W → Env → Z (List D)
  | [], [], ρ => .ok [] ρ
  | .d :: ks, w :: ws, ρ => (fz w ρ).bind fun d ρ1 => (fzD ks ws ρ1).bind fun ds ρ2 => .ok (d :: ds) ρ2
  | .io :: ks, _ :: ws, ρ => fzD ks ws ρ
  | .ro :: ks, _ :: ws, ρ => fzD ks ws ρ
  | _, _, _ => .bad
def putT : Option Slot → Tr → Option Slot
  | some (.ob m _), t => some (.ob m t)
  | some (.ol o _), .l ds => some (.ol o ds)
  | some (.od b _), .g b' es => if b = b' then some (.od b es) else none
  | _, _ => none
def puO (rest : Env → Option Env) (i : Nat) (ρ : Env) : Option Slot → Option Env
  | some s => rest (ρ.set i s)
  | none => none
@[simp] def putO : List Pm → List (Option Nat × Tr) → List Tr → Env → Option Env
  | [], [], [], ρ => some ρ
  | .d :: ks, os, ts, ρ => putO ks os ts ρ
  | .io :: ks, (some i, _) :: os, t :: ts, ρ => puO (fun ρ => putO ks os ts ρ) i ρ (putT ρ[i]? t)
  | .ro :: ks, _ :: os, _ :: ts, ρ => putO ks os ts ρ
  | _, _, _, _ => none
def nodupI : List (Option Nat × Tr) → Bool
  | [] => true
  | (none, _) :: os => nodupI os
  | (some i, _) :: os => os.all (fun p => p.1 != some i) && nodupI os
def enO (w : W) : Option Env → Z W
  | some ρ => frW (.ok w []) ρ
  | none => .bad
def exO (c : Str) (fs : List (Str × D)) : Option Env → Z W
  | some ρ => .ex c fs ρ
  | none => .bad
def frO (ks : List Pm) (os : List (Option Nat × Tr)) (ρ : Env) : FrO → Z W
  | .ok w ts => enO w (putO ks os ts ρ)
  | .ex c fs ts => exO c fs (putO ks os ts ρ)
  | .bad => .bad
def coO (ks : List Pm) (m : List D → List Tr → FrO) (ds : List D) (ρ : Env) : Option (List (Option Nat × Tr)) → Z W
  | some os => if nodupI os = true then frO ks os ρ (m ds (os.map (·.2))) else .bad
  | none => .bad
@[simp] def coW (ks : List Pm) (m : List D → List Tr → FrO) (ws : List W) (ρ1 : Env) : Z W := if ws.length = ks.length then (fzD ks ws ρ1).bind fun ds ρ2 => coO ks m ds ρ2 (takeO ks ws ρ2) else .bad
/-- a def called, own things among its arguments; g puts the values into the parameters' order -/
@[simp] def callO (ks : List Pm) (m : List D → List Tr → FrO) (a : AM) (ρ : Env) : Z W := (a ρ).bind fun ws ρ1 => coW ks m ws ρ1
@[simp] def callOK (ks : List Pm) (m : List D → List Tr → FrO) (g : List W → List W → List W) (a b : AM) (ρ : Env) : Z W := (a ρ).bind fun ws1 ρ1 => (b ρ1).bind fun ws2 ρ2 => coW ks m (g ws1 ws2) ρ2
end E
section
variable {K : PySem.W.Frag} {mg : Str → Option Value} {c : Ctx K mg} {wx : WX} {F F' H H' : Hp} {σ : L2.St} {ρ : Env}
theorem fzD_ne : ∀ {ks : List Pm} {ws : List W} {ρ : Env} {cn : Str} {fs : List (Str × D)} {ρ' : Env}, E.fzD ks ws ρ ≠ .ex cn fs ρ'
  | [], [], _, _, _, _ => fun h => by cases h
  | [], _ :: _, _, _, _, _ => fun h => by cases h
  | .d :: _, [], _, _, _, _ => fun h => by cases h
  | .io :: _, [], _, _, _, _ => fun h => by cases h
  | .ro :: _, [], _, _, _, _ => fun h => by cases h
  | .io :: ks, _ :: ws, ρ, _, _, _ => fun h => fzD_ne (ks := ks) (ws := ws) h
  | .ro :: ks, _ :: ws, ρ, _, _, _ => fun h => fzD_ne (ks := ks) (ws := ws) h
  | .d :: ks, w :: ws, ρ, cn, fs, ρ' => fun h => by
    dsimp only [E.fzD, Z.bind] at h
    cases e1 : fz w ρ with
    | ex _ _ _ => exact fz_ne e1
    | bad => rw [e1] at h; cases h
    | ok d ρ1 =>
      rw [e1] at h
      dsimp only at h
      cases e2 : E.fzD ks ws ρ1 with
      | ex _ _ _ => exact fzD_ne e2
      | bad => rw [e2] at h; cases h
      | ok ds2 ρ2 => rw [e2] at h; cases h
/-- the values of the d places read -/
inductive RdD (K : PySem.W.Frag) (mg : Str → Option Value) (F : Hp) : List Pm → List V → List D → Prop
  | nil : RdD K mg F [] [] []
  | d {ks : List Pm} {v : V} {vs : List V} {d : D} {ds : List D} : Rd K mg F v d → RdD K mg F ks vs ds → RdD K mg F (.d :: ks) (v :: vs) (d :: ds)
  | io {ks : List Pm} {v : V} {vs : List V} {ds : List D} : RdD K mg F ks vs ds → RdD K mg F (.io :: ks) (v :: vs) ds
  | ro {ks : List Pm} {v : V} {vs : List V} {ds : List D} : RdD K mg F ks vs ds → RdD K mg F (.ro :: ks) (v :: vs) ds
theorem RdD.up {F1 : Hp} (s : Same F F1) : ∀ {ks : List Pm} {vs : List V} {ds : List D}, RdD K mg F ks vs ds → RdD K mg F1 ks vs ds
  | _, _, _, .nil => .nil
  | _, _, _, .d h r => .d (h.up s) (RdD.up s r)
  | _, _, _, .io r => .io (RdD.up s r)
  | _, _, _, .ro r => .ro (RdD.up s r)
theorem fzD_ok : ∀ {ks : List Pm} {xs : List V} {ws : List W} {ρ ρ0 : Env} {ds : List D} {ρ' : Env} {F : Hp}, Rs c F σ H ρ → RdWs c F σ H ρ0 xs ws → E.fzD ks ws ρ = .ok ds ρ' → ∃ F', Same F F' ∧ Rs c F' σ H ρ' ∧ RdD K mg F' ks xs ds
  | [], _, _, ρ, _, ds, ρ', F, R, .nil, e => by cases e; exact ⟨F, Same.refl F, R, .nil⟩
  | [], _, _, ρ, _, ds, ρ', F, R, .cons _ _ _, e => by cases e
  | .d :: ks, _, _, ρ, _, ds, ρ', F, R, .nil, e => by cases e
  | .io :: ks, _, _, ρ, _, ds, ρ', F, R, .nil, e => by cases e
  | .ro :: ks, _, _, ρ, _, ds, ρ', F, R, .nil, e => by cases e
  | .io :: ks, _, _, ρ, ρ0, ds, ρ', F, R, .cons st h r, e => by
    obtain ⟨F', s, R', r'⟩ := fzD_ok (ks := ks) R r e
    exact ⟨F', s, R', .io r'⟩
  | .ro :: ks, _, _, ρ, ρ0, ds, ρ', F, R, .cons st h r, e => by
    obtain ⟨F', s, R', r'⟩ := fzD_ok (ks := ks) R r e
    exact ⟨F', s, R', .ro r'⟩
  | .d :: ks, _, _, ρ, ρ0, ds, ρ', F, R, .cons (w := w) (ws := ws) st h r, e => by
    dsimp only [E.fzD, Z.bind] at e
    cases e1 : fz w ρ with
    | ex _ _ _ => rw [e1] at e; cases e
    | bad => rw [e1] at e; cases e
    | ok d ρ1 =>
      rw [e1] at e
      dsimp only at e
      cases e2 : E.fzD ks ws ρ1 with
      | ex _ _ _ => rw [e2] at e; cases e
      | bad => rw [e2] at e; cases e
      | ok ds2 ρ2 =>
        rw [e2] at e
        cases e
        obtain ⟨F1, s1, R1, r1⟩ := fz_ok R (h.st_up (ρ1 := ρ) (Same.refl F) st) e1
        obtain ⟨F2, s2, R2, r2⟩ := fzD_ok (ks := ks) R1 (r.up s1 (ρ1 := ρ1) (H1 := H)) e2
        exact ⟨F2, s1.trans s2, R2, .d (r1.up s2) r2⟩
/-- an own argument's content -/
theorem ownT_ok {k : Pm} {i : Nat} {t : Tr} {x : V} (R : Rs c F σ H ρ) (hx : σ[i]? = some (some x)) (h : E.ownT k ρ[i]? = some t) : Ow K mg F H x t ∧ (∀ q, ft H t x q → F q = none) ∧ (∀ q, ft H t x q ↔ Ft σ H ρ i q) ∧ (k = .io → E.isFz t = false → ∃ a, x = .ref a) ∧
    (k = .io → ∀ q, ft H t x q → (c.H0 q = none ∨ c.IO i q) ∧ c.P q = none) := by
  cases hs : ρ[i]? with
  | none => rw [hs] at h; cases k <;> cases h
  | some s =>
    rw [hs] at h
    have r := R.sl i s hs
    have fi : ∀ q, Ft σ H ρ i q ↔ FtS σ H i s q := fun q => ⟨fun ⟨s', e, h⟩ => by rw [hs] at e; cases e; exact h, fun h => ⟨s, hs, h⟩⟩
    cases s with
    | un => cases k <;> cases h
    | xe _ _ => cases k <;> cases h
    | tr d =>
      cases k with
      | d => cases h
      | io => cases h
      | ro =>
        cases h
        obtain ⟨v, e, rd⟩ := r
        rw [hx] at e; cases e
        exact ⟨.fz rd, fun q z => by rw [ft] at z; exact z.elim, fun q => by rw [fi, ft]; exact Iff.rfl, (fun z => by cases z), (fun z => by cases z)⟩
    | ol o ds =>
      obtain ⟨q, vs, e, n, hq, rl, w⟩ := r
      rw [hx] at e; cases e
      have go : ∀ z, ft H (.l ds) (.ref q) z ↔ z = q := fun z => by rw [ft]; exact ⟨fun e => by cases e; rfl, fun e => by rw [e]⟩
      have res : Ow K mg F H (.ref q) (.l ds) ∧ (∀ z, ft H (.l ds) (.ref q) z → F z = none) ∧ (∀ z, ft H (.l ds) (.ref q) z ↔ Ft σ H ρ i z) ∧ (k = .io → E.isFz (.l ds) = false → ∃ a, V.ref q = .ref a) ∧ (k = .io → ∀ z, ft H (.l ds) (.ref q) z → (c.H0 z = none ∨ c.IO i z) ∧ c.P z = none) := by
        refine ⟨.l hq rl, fun z hz => by rw [(go z).1 hz]; exact n, fun z => ?_, fun _ _ => ⟨q, rfl⟩, fun _ z hz => ?_⟩
        · rw [fi, go]
          show z = q ↔ σ[i]? = some (some (.ref z))
          rw [hx]
          exact ⟨fun e => by rw [e], fun e => by cases e; rfl⟩
        · rw [(go z).1 hz]
          cases o with
          | true => have w : c.rt i = some q ∧ c.IO i q ∧ c.P q = none := by simpa using w
                    exact ⟨.inr w.2.1, w.2.2⟩
          | false => have w : Fresh c q := by simpa using w
                     exact ⟨.inl w.1, w.2⟩
      cases k with
      | d => cases h
      | io => cases h; exact res
      | ro => cases h; exact res
    | od b es =>
      obtain ⟨q, e, n, w, dc⟩ := r
      rw [hx] at e; cases e
      have go : ∀ z, ft H (.g b es) (.ref q) z ↔ z = q := fun z => by rw [ft]; exact ⟨fun e => by cases e; rfl, fun e => by rw [e]⟩
      have res : Ow K mg F H (.ref q) (.g b es) ∧ (∀ z, ft H (.g b es) (.ref q) z → F z = none) ∧ (∀ z, ft H (.g b es) (.ref q) z ↔ Ft σ H ρ i z) ∧ (k = .io → E.isFz (.g b es) = false → ∃ a, V.ref q = .ref a) ∧ (k = .io → ∀ z, ft H (.g b es) (.ref q) z → (c.H0 z = none ∨ c.IO i z) ∧ c.P z = none) := by
        refine ⟨.g dc, fun z hz => by rw [(go z).1 hz]; exact n, fun z => ?_, fun _ _ => ⟨q, rfl⟩, fun _ z hz => ?_⟩
        · rw [fi, go]
          show z = q ↔ σ[i]? = some (some (.ref z))
          rw [hx]
          exact ⟨fun e => by rw [e], fun e => by cases e; rfl⟩
        · rw [(go z).1 hz]; exact ⟨.inl w.1, w.2⟩
      cases k with
      | d => cases h
      | io => cases h; exact res
      | ro => cases h; exact res
    | ob m t' =>
      obtain ⟨v, e, ow, n, w⟩ := r
      rw [hx] at e; cases e
      have fi2 : ∀ z, ft H t' x z ↔ Ft σ H ρ i z := fun z => by
        rw [fi]
        exact ⟨fun h => ⟨x, hx, h⟩, fun ⟨v, e, h⟩ => by rw [hx] at e; cases e; exact h⟩
      cases k with
      | d => cases h
      | ro => cases h; exact ⟨ow, fun q hq => (n q hq).1, fi2, (fun z => by cases z), (fun z => by cases z)⟩
      | io =>
        cases m with
        | ro => cases h
        | mine =>
          cases h
          refine ⟨ow, fun q hq => (n q hq).1, fi2, fun _ nf => ?_, fun _ q hq => ⟨.inl (n q hq).2.1, (n q hq).2.2⟩⟩
          cases ow with
          | fz _ => cases nf
          | l _ _ => exact ⟨_, rfl⟩
          | g _ => exact ⟨_, rfl⟩
          | n _ _ _ => exact ⟨_, rfl⟩
        | io b =>
          cases h
          obtain ⟨a, ea, _⟩ := w b rfl
          exact ⟨ow, fun q hq => (n q hq).1, fi2, fun _ _ => ⟨a, ea⟩, fun _ q hq => (n q hq).2⟩
theorem FtI_A : ∀ {ks : List Pm} {vs : List V} {ts : List Tr} {q : Addr}, FtI H ks vs ts q → FtA H ks vs ts q
  | .d :: ks, _ :: vs, ts, q, h => by rw [FtA]; rw [FtI] at h; exact FtI_A (ks := ks) h
  | .io :: ks, _ :: vs, _ :: ts, q, h => by rw [FtA]; rw [FtI] at h; exact h.imp id fun h => FtI_A (ks := ks) h
  | .ro :: ks, _ :: vs, _ :: ts, q, h => by rw [FtA]; rw [FtI] at h; exact .inr (FtI_A (ks := ks) h)
  | [], _, _, _, h => by simp [FtI] at h
  | .d :: _, [], _, _, h => by simp [FtI] at h
  | .io :: _, [], _, _, h => by simp [FtI] at h
  | .ro :: _, [], _, _, h => by simp [FtI] at h
  | .io :: _, _ :: _, [], _, h => by simp [FtI] at h
  | .ro :: _, _ :: _, [], _, h => by simp [FtI] at h
/-- which slots the own arguments are -/
inductive Lnk (σ : L2.St) : List Pm → List V → List (Option Nat × Tr) → Prop
  | nil : Lnk σ [] [] []
  | d {ks : List Pm} {v : V} {vs : List V} {os : List (Option Nat × Tr)} : Lnk σ ks vs os → Lnk σ (.d :: ks) (v :: vs) os
  | io {ks : List Pm} {v : V} {vs : List V} {i : Nat} {t : Tr} {os : List (Option Nat × Tr)} : σ[i]? = some (some v) → Lnk σ ks vs os → Lnk σ (.io :: ks) (v :: vs) ((some i, t) :: os)
  | ro {ks : List Pm} {v : V} {vs : List V} {o : Option Nat × Tr} {os : List (Option Nat × Tr)} : Lnk σ ks vs os → Lnk σ (.ro :: ks) (v :: vs) (o :: os)
def remO : List Pm → List (Option Nat × Tr) → Nat → Prop
  | .d :: ks, os, j => remO ks os j
  | .io :: ks, (some i, _) :: os, j => j = i ∨ remO ks os j
  | .ro :: ks, _ :: os, j => remO ks os j
  | _, _, _ => False
theorem remO_in : ∀ {ks : List Pm} {os : List (Option Nat × Tr)} {j : Nat}, remO ks os j → ∃ t, (some j, t) ∈ os
  | .d :: ks, os, j, h => by rw [remO] at h; exact remO_in (ks := ks) h
  | .io :: ks, (some i, t) :: os, j, h => by
    rw [remO] at h
    rcases h with h | h
    · subst h; exact ⟨t, List.mem_cons_self⟩
    · obtain ⟨t, ht⟩ := remO_in (ks := ks) h; exact ⟨t, List.mem_cons_of_mem _ ht⟩
  | .ro :: ks, o :: os, j, h => by
    rw [remO] at h
    obtain ⟨t, ht⟩ := remO_in (ks := ks) h; exact ⟨t, List.mem_cons_of_mem _ ht⟩
  | [], _, _, h => by simp [remO] at h
  | .io :: _, [], _, h => by simp [remO] at h
  | .io :: _, (none, _) :: _, _, h => by simp [remO] at h
  | .ro :: _, [], _, h => by simp [remO] at h
theorem takeO_io : ∀ {ks : List Pm} {ws : List W} {os : List (Option Nat × Tr)}, E.takeO ks ws ρ = some os → E.nodupI os = true → ∀ i t, remO ks os i → (some i, t) ∈ os → E.ownT .io ρ[i]? = some t
  | [], ws, os, e, nd, i, t, hr, hm => by simp [remO] at hr
  | .d :: ks, [], os, e, nd, i, t, hr, hm => by cases e
  | .d :: ks, w :: ws, os, e, nd, i, t, hr, hm => by rw [remO] at hr; exact takeO_io (ks := ks) e nd i t hr hm
  | .io :: ks, [], os, e, nd, i, t, hr, hm => by cases e
  | .io :: ks, w :: ws, os, e, nd, i, t, hr, hm => by
    cases w with
    | o j =>
      dsimp only [E.takeO] at e
      cases e1 : E.ownT .io ρ[j]? with
      | none => rw [e1] at e; cases e
      | some tj =>
        rw [e1] at e
        dsimp only at e
        by_cases ez : E.isFz tj = true
        · rw [if_pos ez] at e; cases e
        · rw [if_neg ez] at e
          cases e2 : E.takeO ks ws ρ with
          | none => rw [e2] at e; cases e
          | some os2 =>
            rw [e2] at e
            cases e
            have nd2 : os2.all (fun p => p.1 != some j) = true ∧ E.nodupI os2 = true := by
              unfold E.nodupI at nd; exact Bool.and_eq_true_iff.mp nd
            rcases List.mem_cons.mp hm with z | z
            · cases z; exact e1
            · rw [remO] at hr
              rcases hr with hr | hr
              · subst hr
                have := List.all_eq_true.mp nd2.1 _ z
                simp at this
              · exact takeO_io (ks := ks) e2 nd2.2 i t hr z
    | _ => cases e
  | .ro :: ks, [], os, e, nd, i, t, hr, hm => by cases e
  | .ro :: ks, w :: ws, os, e, nd, i, t, hr, hm => by
    cases w with
    | o j =>
      dsimp only [E.takeO] at e
      cases e1 : E.ownT .ro ρ[j]? with
      | none => rw [e1] at e; cases e
      | some tj =>
        rw [e1] at e
        dsimp only at e
        cases e2 : E.takeO ks ws ρ with
        | none => rw [e2] at e; cases e
        | some os2 =>
          rw [e2] at e
          cases e
          have nd2 : os2.all (fun p => p.1 != some j) = true ∧ E.nodupI os2 = true := by
            unfold E.nodupI at nd; exact Bool.and_eq_true_iff.mp nd
          rw [remO] at hr
          rcases List.mem_cons.mp hm with z | z
          · cases z
            obtain ⟨t', ht⟩ := remO_in hr
            have := List.all_eq_true.mp nd2.1 _ ht
            simp at this
          · exact takeO_io (ks := ks) e2 nd2.2 i t hr z
    | t d =>
      dsimp only [E.takeO] at e
      cases e2 : E.takeO ks ws ρ with
      | none => rw [e2] at e; cases e
      | some os2 =>
        rw [e2] at e
        cases e
        rw [remO] at hr
        rcases List.mem_cons.mp hm with z | z
        · cases z
        · exact takeO_io (ks := ks) e2 nd i t hr z
    | _ => cases e
theorem takeO_ok (R : Rs c F σ H ρ) : ∀ {ks : List Pm} {xs : List V} {ws : List W} {ρ0 : Env} {ds : List D} {os : List (Option Nat × Tr)}, (∀ w ∈ ws, w.st = w) → RdWs c F σ H ρ0 xs ws → RdD K mg F ks xs ds → E.takeO ks ws ρ = some os → E.nodupI os = true →
    ArgO K mg F H ks xs ds (os.map (·.2)) ∧ Lnk σ ks xs os ∧ (∀ q, FtA H ks xs (os.map (·.2)) q → ∃ i t, (some i, t) ∈ os ∧ Ft σ H ρ i q) ∧
    (∀ q, FtI H ks xs (os.map (·.2)) q → (F q = none ∧ (c.H0 q = none ∨ c.io q) ∧ c.P q = none) ∧ ∃ i, remO ks os i ∧ Ft σ H ρ i q)
  | [], _, _, _, _, _, st, .nil, .nil, e, nd => by cases e; exact ⟨.nil, .nil, fun q h => by simp [FtA] at h, fun q h => by simp [FtI] at h⟩
  | .d :: ks, x :: xs, w :: ws, _, d :: ds, os, st, .cons _ h r, .d rv rd, e, nd => by
    obtain ⟨a, l, b, cc⟩ := takeO_ok R (fun w hw => st w (List.mem_cons_of_mem _ hw)) r rd e nd
    exact ⟨.d rv a, .d l, fun q h => by rw [FtA] at h; exact b q h, fun q h => by rw [FtI] at h; obtain ⟨z, j, hj, hf⟩ := cc q h; exact ⟨z, j, by rw [remO]; exact hj, hf⟩⟩
  | .io :: ks, x :: xs, w :: ws, _, ds, os, st, .cons _ h r, .io rd, e, nd => by
    cases w with
    | o i =>
      dsimp only [E.takeO] at e
      cases e1 : E.ownT .io ρ[i]? with
      | none => rw [e1] at e; cases e
      | some t =>
        rw [e1] at e
        dsimp only at e
        cases ez : E.isFz t with
        | true => rw [ez] at e; cases e
        | false =>
          rw [ez] at e
          simp only [Bool.false_eq_true, if_false] at e
          cases e2 : E.takeO ks _ ρ with
          | none => rw [e2] at e; cases e
          | some os2 =>
            rw [e2] at e
            cases e
            have nd2 : os2.all (fun p => p.1 != some i) = true ∧ E.nodupI os2 = true := by
              unfold E.nodupI at nd; exact Bool.and_eq_true_iff.mp nd
            obtain ⟨a, l, b, cc⟩ := takeO_ok R (fun w hw => st w (List.mem_cons_of_mem _ hw)) r rd e2 nd2.2
            obtain ⟨ow, n, fi, rf, ce⟩ := ownT_ok R (x := _) h e1
            obtain ⟨ad, ea⟩ := rf rfl ez
            subst ea
            have dj : ∀ q, ft H t (.ref ad) q → ¬ FtA H ks _ (os2.map (·.2)) q := fun q h1 h2 => by
              obtain ⟨j, tj, hj, hq⟩ := b q h2
              have := R.dj i j q ((fi q).1 h1) hq
              subst this
              have := List.all_eq_true.mp nd2.1 _ hj
              simp at this
            refine ⟨.io ow (fun q hq => ⟨n q hq, dj q hq⟩) a, .io h l, fun q hq => ?_, fun q hq => ?_⟩
            · rw [List.map_cons, FtA] at hq
              rcases hq with hq | hq
              · exact ⟨i, t, List.mem_cons_self, (fi q).1 hq⟩
              · obtain ⟨j, tj, hj, z⟩ := b q hq; exact ⟨j, tj, List.mem_cons_of_mem _ hj, z⟩
            · rw [List.map_cons, FtI] at hq
              rcases hq with hq | hq
              · obtain ⟨z1, z2⟩ := ce rfl q hq
                exact ⟨⟨n q hq, z1.imp id fun z => ⟨i, z⟩, z2⟩, i, by rw [remO]; exact .inl rfl, (fi q).1 hq⟩
              · obtain ⟨z, j, hj, hf⟩ := cc q hq; exact ⟨z, j, by rw [remO]; exact .inr hj, hf⟩
    | _ => cases e
  | .ro :: ks, x :: xs, w :: ws, _, ds, os, st, .cons _ h r, .ro rd, e, nd => by
    cases w with
    | f _ => exact nomatch st _ List.mem_cons_self
    | g _ _ => exact nomatch st _ List.mem_cons_self
    | u _ => exact nomatch st _ List.mem_cons_self
    | o i =>
      dsimp only [E.takeO] at e
      cases e1 : E.ownT .ro ρ[i]? with
      | none => rw [e1] at e; cases e
      | some t =>
        rw [e1] at e
        dsimp only at e
        cases e2 : E.takeO ks _ ρ with
        | none => rw [e2] at e; cases e
        | some os2 =>
          rw [e2] at e
          cases e
          have nd2 : os2.all (fun p => p.1 != some i) = true ∧ E.nodupI os2 = true := by
            unfold E.nodupI at nd; exact Bool.and_eq_true_iff.mp nd
          obtain ⟨a, l, b, cc⟩ := takeO_ok R (fun w hw => st w (List.mem_cons_of_mem _ hw)) r rd e2 nd2.2
          obtain ⟨ow, n, fi, _, _⟩ := ownT_ok R (x := _) h e1
          have dj : ∀ q, ft H t _ q → ¬ FtA H ks _ (os2.map (·.2)) q := fun q h1 h2 => by
            obtain ⟨j, tj, hj, hq⟩ := b q h2
            have := R.dj i j q ((fi q).1 h1) hq
            subst this
            have := List.all_eq_true.mp nd2.1 _ hj
            simp at this
          refine ⟨.ro ow (fun q hq => ⟨n q hq, dj q hq⟩) a, .ro l, fun q hq => ?_, fun q hq => ?_⟩
          · rw [List.map_cons, FtA] at hq
            rcases hq with hq | hq
            · exact ⟨i, t, List.mem_cons_self, (fi q).1 hq⟩
            · obtain ⟨j, tj, hj, z⟩ := b q hq; exact ⟨j, tj, List.mem_cons_of_mem _ hj, z⟩
          · rw [List.map_cons, FtI] at hq
            obtain ⟨z, j, hj, hf⟩ := cc q hq; exact ⟨z, j, by rw [remO]; exact hj, hf⟩
    | t d =>
      dsimp only [E.takeO] at e
      cases e2 : E.takeO ks _ ρ with
      | none => rw [e2] at e; cases e
      | some os2 =>
        rw [e2] at e
        cases e
        obtain ⟨a, l, b, cc⟩ := takeO_ok R (fun w hw => st w (List.mem_cons_of_mem _ hw)) r rd e2 nd
        refine ⟨.ro (.fz h) (fun q hq => by rw [ft] at hq; exact hq.elim) a, .ro l, fun q hq => ?_, fun q hq => ?_⟩
        · rw [List.map_cons, FtA] at hq
          rcases hq with hq | hq
          · rw [ft] at hq; exact hq.elim
          · obtain ⟨j, tj, hj, z⟩ := b q hq; exact ⟨j, tj, List.mem_cons_of_mem _ hj, z⟩
        · rw [List.map_cons, FtI] at hq
          obtain ⟨z, j, hj, hf⟩ := cc q hq; exact ⟨z, j, by rw [remO]; exact hj, hf⟩
/-- the state while the own arguments' slots (rem) are put back; N: the cells still to come -/
structure PRs (c : Ctx K mg) (F' : Hp) (σ : L2.St) (H' : Hp) (ρ : Env) (rem : Nat → Prop) (N : Addr → Prop) : Prop where
  len : σ.length = ρ.length
  sl : ∀ j s, ¬ rem j → ρ[j]? = some s → RdS c F' σ H' j s
  dj : ∀ i j q, ¬ rem i → ¬ rem j → Ft σ H' ρ i q → Ft σ H' ρ j q → i = j
  nf : ∀ j q, ¬ rem j → Ft σ H' ρ j q → ¬ N q
/-- slot i's new content -/
theorem putT_ok {i : Nat} {s0 s : Slot} {t u : Tr} {v : V} (R : Rs c F σ H ρ) (hv : σ[i]? = some (some v)) (hs : ρ[i]? = some s0) (h0 : E.ownT .io (some s0) = some t) (hp : E.putT (some s0) u = some s) (ow : Ow K mg F' H' v u) (n : ∀ q, ft H' u v q → F' q = none ∧ (ft H t v q ∨ H q = none)) :
    RdS c F' σ H' i s ∧ ∀ q, FtS σ H' i s q ↔ ft H' u v q := by
  have hot : E.ownT .io ρ[i]? = some t := by rw [hs]; exact h0
  obtain ⟨_, _, fi, _, ce⟩ := ownT_ok R hv hot
  have r := R.sl i s0 hs
  have fr : ∀ q, H q = none → Fresh c q := fun q h => R.none0 h
  cases s0 with
  | un => cases h0
  | xe _ _ => cases h0
  | tr d => cases h0
  | ol o ds =>
    obtain ⟨a, vs, e, nn, hq, rl, w⟩ := r
    rw [hv] at e; cases e
    cases u with
    | l ds' =>
      cases hp
      cases ow with
      | l e1 rl1 =>
        refine ⟨⟨a, _, hv, (n a (by rw [ft])).1, e1, rl1, w⟩, fun q => ?_⟩
        show σ[i]? = some (some (.ref q)) ↔ _
        rw [hv, ft]
        exact ⟨fun e => by cases e; rfl, fun e => by cases e; rfl⟩
    | _ => cases hp
  | od b es =>
    obtain ⟨a, e, nn, w, dc⟩ := r
    rw [hv] at e; cases e
    cases u with
    | g b' es' =>
      dsimp only [E.putT] at hp
      by_cases eb : b = b'
      · rw [if_pos eb] at hp
        cases hp
        subst eb
        cases ow with
        | g e1 =>
          refine ⟨⟨a, hv, (n a (by rw [ft])).1, w, e1⟩, fun q => ?_⟩
          show σ[i]? = some (some (.ref q)) ↔ _
          rw [hv, ft]
          exact ⟨fun e => by cases e; rfl, fun e => by cases e; rfl⟩
      · rw [if_neg eb] at hp; cases hp
    | _ => cases hp
  | ob m t' =>
    obtain ⟨v0, e, ow0, n0, w⟩ := r
    rw [hv] at e; cases e
    cases hp
    refine ⟨⟨v, hv, ow, fun q hq => ⟨(n q hq).1, ?_⟩, w⟩, fun q => ⟨fun ⟨v2, e, h⟩ => by rw [hv] at e; cases e; exact h, fun h => ⟨v, hv, h⟩⟩⟩
    rcases (n q hq).2 with z | z
    · cases m with
      | mine => cases h0; exact (n0 q z).2
      | io b => cases h0; exact (n0 q z).2
      | ro => cases h0
    · have fq := fr q z
      cases m with
      | mine => exact fq
      | io b => exact ⟨.inl fq.1, fq.2⟩
      | ro => exact fq.2
theorem putO_ok (R : Rs c F σ H ρ) (hk : Hk c F' H') : ∀ {ks : List Pm} {xs : List V} {os : List (Option Nat × Tr)} {us : List Tr} {ρ1 ρ3 : Env}, E.putO ks os us ρ1 = some ρ3 → E.nodupI os = true → Lnk σ ks xs os → PostO K mg F' H H' ks xs (os.map (·.2)) us →
    (∀ i t, (some i, t) ∈ os → ρ1[i]? = ρ[i]?) → (∀ i t, remO ks os i → (some i, t) ∈ os → E.ownT .io ρ[i]? = some t) → PRs c F' σ H' ρ1 (remO ks os) (FtI H' ks xs us) → Rs c F' σ H' ρ3 ∧ ∀ j q, Ft σ H' ρ3 j q → FtI H' ks xs us q ∨ Ft σ H' ρ1 j q ∧ ¬ remO ks os j
  | [], _, _, _, ρ1, ρ3, e, nd, .nil, .nil, _, _, P => by
    cases e
    refine ⟨⟨hk, P.len, fun j s hs => P.sl j s (by simp [remO]) hs, fun i j q => P.dj i j q (by simp [remO]) (by simp [remO])⟩, fun j q h => .inr ⟨h, by simp [remO]⟩⟩
  | .d :: ks, x :: xs, os, us, ρ1, ρ3, e, nd, .d l, .d po, h1, h2, P => by
    have P' : PRs c F' σ H' ρ1 (remO ks _) (FtI H' ks _ _) := ⟨P.len, fun j s nr => P.sl j s (by rw [remO]; exact nr), fun i j q ni nj => P.dj i j q (by rw [remO]; exact ni) (by rw [remO]; exact nj), fun j q nr hq z => P.nf j q (by rw [remO]; exact nr) hq (by rw [FtI]; exact z)⟩
    obtain ⟨a, b⟩ := putO_ok R hk (ks := ks) e nd l po h1 (fun i t hr => h2 i t (by rw [remO]; exact hr)) P'
    exact ⟨a, fun j q h => by rw [FtI, remO]; exact b j q h⟩
  | .ro :: ks, x :: xs, o :: os, u :: us, ρ1, ρ3, e, nd, .ro l, .ro po, h1, h2, P => by
    have nd2 : E.nodupI os = true := by
      obtain ⟨oi, ot⟩ := o
      cases oi with
      | none => exact nd
      | some i => unfold E.nodupI at nd; exact (Bool.and_eq_true_iff.mp nd).2
    have P' : PRs c F' σ H' ρ1 (remO ks _) (FtI H' ks _ _) := ⟨P.len, fun j s nr => P.sl j s (by rw [remO]; exact nr), fun i j q ni nj => P.dj i j q (by rw [remO]; exact ni) (by rw [remO]; exact nj), fun j q nr hq z => P.nf j q (by rw [remO]; exact nr) hq (by rw [FtI]; exact z)⟩
    obtain ⟨a, b⟩ := putO_ok R hk (ks := ks) e nd2 l po (fun i t hm => h1 i t (List.mem_cons_of_mem _ hm)) (fun i t hr hm => h2 i t (by rw [remO]; exact hr) (List.mem_cons_of_mem _ hm)) P'
    exact ⟨a, fun j q h => by rw [FtI, remO]; exact b j q h⟩
  | .io :: ks, v :: xs, (some i, t) :: os, u :: us, ρ1, ρ3, e, nd, .io hv l, .io ow n po, h1, h2, P => by
    have nd2 : os.all (fun p => p.1 != some i) = true ∧ E.nodupI os = true := by
      unfold E.nodupI at nd; exact Bool.and_eq_true_iff.mp nd
    have ni : ¬ remO ks os i := fun z => by
      obtain ⟨t', ht⟩ := remO_in z
      have := List.all_eq_true.mp nd2.1 _ ht
      simp at this
    dsimp only [E.putO] at e
    have ei := h1 i t List.mem_cons_self
    have ht := h2 i t (by rw [remO]; exact .inl rfl) List.mem_cons_self
    cases hs : ρ[i]? with
    | none => rw [hs] at ht; cases ht
    | some s0 =>
      rw [ei, hs] at e
      rw [hs] at ht
      cases ep : E.putT (some s0) u with
      | none => rw [ep] at e; cases e
      | some s =>
        rw [ep] at e
        have e : E.putO ks os us (ρ1.set i s) = some ρ3 := e
        obtain ⟨rs, fs⟩ := putT_ok (F' := F') (H' := H') R hv hs ht ep ow fun q hq => ⟨(n q hq).1, (n q hq).2.1⟩
        have li : i < ρ1.length := by
          have := (List.getElem?_eq_some_iff.mp (ei.trans hs)).1
          exact this
        have nr : ∀ j, j ≠ i → ¬ remO ks os j → ¬ remO (.io :: ks) ((some i, t) :: os) j := fun j ne nr z => by
          rw [remO] at z
          rcases z with z | z
          · exact ne z
          · exact nr z
        have ftj : ∀ j q, j ≠ i → Ft σ H' (ρ1.set i s) j q → Ft σ H' ρ1 j q := fun j q ne ⟨s', e, h⟩ => ⟨s', (set_ne ne).1 e, h⟩
        have fti : ∀ q, Ft σ H' (ρ1.set i s) i q → ft H' u v q := fun q ⟨s', e, h⟩ => by
          obtain ⟨rfl, _⟩ := set_at e; exact (fs q).1 h
        have P' : PRs c F' σ H' (ρ1.set i s) (remO ks os) (FtI H' ks xs us) := by
          refine ⟨by rw [List.length_set]; exact P.len, fun j s' hr hj => ?_, fun j k q hj hk fj fk => ?_, fun j q hr fj z => ?_⟩
          · by_cases ji : j = i
            · subst ji; obtain ⟨rfl, _⟩ := set_at hj; exact rs
            · exact P.sl j s' (nr j ji hr) ((set_ne ji).1 hj)
          · by_cases ji : j = i
            · by_cases ki : k = i
              · rw [ji, ki]
              · subst ji
                exact absurd (by rw [FtI]; exact .inl (fti q fj)) (P.nf k q (nr k ki hk) (ftj k q ki fk))
            · by_cases ki : k = i
              · subst ki
                exact absurd (by rw [FtI]; exact .inl (fti q fk)) (P.nf j q (nr j ji hj) (ftj j q ji fj))
              · exact P.dj j k q (nr j ji hj) (nr k ki hk) (ftj j q ji fj) (ftj k q ki fk)
          · by_cases ji : j = i
            · subst ji; exact (n q (fti q fj)).2.2 z
            · exact P.nf j q (nr j ji hr) (ftj j q ji fj) (by rw [FtI]; exact .inr z)
        obtain ⟨a, b⟩ := putO_ok R hk (ks := ks) e nd2.2 l po (fun j t' hm => by
          have ne : j ≠ i := fun z => by
            subst z
            have := List.all_eq_true.mp nd2.1 _ hm
            simp at this
          rw [List.getElem?_set_ne (Ne.symm ne)]
          exact h1 j t' (List.mem_cons_of_mem _ hm)) (fun j t' hr hm => h2 j t' (by rw [remO]; exact .inr hr) (List.mem_cons_of_mem _ hm)) P'
        refine ⟨a, fun j q h => ?_⟩
        rw [FtI, remO]
        rcases b j q h with z | ⟨z, nz⟩
        · exact .inl (.inr z)
        · by_cases ji : j = i
          · subst ji; exact .inl (.inl (fti q z))
          · exact .inr ⟨ftj j q ji z, fun y => y.elim ji nz⟩
theorem callO_start {ks : List Pm} {xs : List V} {os : List (Option Nat × Tr)} {us : List Tr} (R : Rs c F σ H ρ) (a : AdvI (FtI H ks xs (os.map (·.2))) F H F' H') (cc : ∀ q, FtI H ks xs (os.map (·.2)) q → (F q = none ∧ (c.H0 q = none ∨ c.io q) ∧ c.P q = none) ∧ ∃ i, remO ks os i ∧ Ft σ H ρ i q) (po : PostO K mg F' H H' ks xs (os.map (·.2)) us) :
    PRs c F' σ H' ρ (remO ks os) (FtI H' ks xs us) ∧ ∀ j q, ¬ remO ks os j → Ft σ H' ρ j q → Ft σ H ρ j q := by
  have k : ∀ j s, ¬ remO ks os j → ρ[j]? = some s → RdS c F' σ H' j s ∧ ∀ q, FtS σ H' j s q ↔ FtS σ H j s q := fun j s nr e => (R.sl j s e).keep a.ff rfl fun q o hq ho t nf => by
    refine ⟨a.hh q o (fun z => ?_) ho, a.keepN nf ho t⟩
    obtain ⟨_, i, hi, hf⟩ := cc q z
    exact nr (by rw [R.dj j i q ⟨s, e, hq⟩ hf]; exact hi)
  have back : ∀ j q, ¬ remO ks os j → Ft σ H' ρ j q → Ft σ H ρ j q := fun j q nr ⟨s, e, h⟩ => ⟨s, e, ((k j s nr e).2 q).1 h⟩
  refine ⟨⟨R.len, fun j s nr e => (k j s nr e).1, fun i j q ni nj fi fj => R.dj i j q (back i q ni fi) (back j q nj fj), fun j q nr fj z => ?_⟩, back⟩
  have hj := back j q nr fj
  have old : ∀ {ks : List Pm} {vs : List V} {ts us : List Tr}, PostO K mg F' H H' ks vs ts us → ∀ q, FtI H' ks vs us q → FtI H ks vs ts q ∨ H q = none := by
    intro ks vs ts us po
    induction po with
    | nil => intro q h; simp [FtI] at h
    | d _ ih => intro q h; rw [FtI] at h ⊢; exact ih q h
    | ro _ ih => intro q h; rw [FtI] at h ⊢; exact ih q h
    | io ow n _ ih =>
      intro q h
      rw [FtI] at h ⊢
      rcases h with h | h
      · rcases (n q h).2.1 with y | y
        · exact .inl (.inl y)
        · exact .inr y
      · exact (ih q h).imp .inr id
  rcases old po q z with y | y
  · obtain ⟨_, i, hi, hf⟩ := cc q y
    exact nr (by rw [R.dj j i q hj hf]; exact hi)
  · exact R.notOwn y j hj
theorem RdWs.st {xs : List V} {ws : List W} (h : RdWs c F σ H ρ xs ws) : ∀ w ∈ ws, w.st = w := by
  induction h with
  | nil => exact fun _ h => nomatch h
  | cons e _ _ ih =>
    intro w hw
    rcases List.mem_cons.mp hw with z | z
    · subst z; exact e
    · exact ih w z
theorem coW_ok {ks : List Pm} {m : List D → List Tr → FrO} {ws : List W} {xs : List V} {F0 F1 H1 : Hp} {ρ0 ρ1 : Env} {Q : VK} (s1 : Same F0 F1) (R1 : Rs c F1 σ H1 ρ1) (r1 : RdWs c F1 σ H1 ρ0 xs ws) (p : Pst c wx F0 σ (E.coW ks m ws ρ1) fun w ρ' => ∀ x F' H', Same F0 F' → Rs c F' σ H' ρ' → RdW c F' σ H' ρ' x w → Q x H') :
    spO K mg ks m xs H1 Q fun cls d J => wx cls d σ J := by
  dsimp only [E.coW] at p
  by_cases l : ws.length = ks.length
  rotate_left
  · rw [if_neg l] at p; exact p.elim
  rw [if_pos l] at p
  cases e : E.fzD ks ws ρ1 with
  | bad => rw [e] at p; exact p.elim
  | ex _ _ _ => exact absurd e fzD_ne
  | ok ds ρ2 =>
    rw [e] at p
    dsimp only [Z.bind] at p
    obtain ⟨F2, s2, R2, rd⟩ := fzD_ok R1 r1 e
    cases eo : E.takeO ks ws ρ2 with
    | none => rw [eo] at p; exact p.elim
    | some os =>
      rw [eo] at p
      dsimp only [E.coO] at p
      by_cases nd : E.nodupI os = true
      rotate_left
      · rw [if_neg nd] at p; exact p.elim
      rw [if_pos nd] at p
      have r2 : RdWs c F2 σ H1 ρ2 xs ws := r1.up s2
      obtain ⟨ar, lk, _, cc⟩ := takeO_ok R2 r2.st r2 rd eo nd
      have s12 := s1.trans s2
      refine ⟨by rw [r1.len]; exact l, F2, ds, _, R2.up, ar, ?_⟩
      cases em : m ds (os.map (·.2)) with
      | bad => rw [em] at p; exact p.elim
      | ex cn fs us =>
        rw [em] at p
        intro C dd fsV F' H' hm a hd r po
        obtain ⟨P, back⟩ := callO_start R2 a cc po
        dsimp only [E.frO] at p
        cases ep : E.putO ks os us ρ2 with
        | none => rw [ep] at p; exact p.elim
        | some ρ3 =>
          rw [ep] at p
          obtain ⟨R3, _⟩ := putO_ok R2 (R2.toHk.advI a fun q z => (cc q z).1) ep nd lk po (fun _ _ _ => rfl) (takeO_io eo nd) P
          exact p C dd fsV F' H' σ hm (s12.trans a.ff) R3 hd r
      | ok w us =>
        rw [em] at p
        intro x F' H' a r po nc
        obtain ⟨P, back⟩ := callO_start R2 a cc po
        dsimp only [E.frO] at p
        cases ep : E.putO ks os us ρ2 with
        | none => rw [ep] at p; exact p.elim
        | some ρ3 =>
          rw [ep] at p
          obtain ⟨R3, fts⟩ := putO_ok R2 (R2.toHk.advI a fun q z => (cc q z).1) ep nd lk po (fun _ _ _ => rfl) (takeO_io eo nd) P
          have tw := r.toW R2 (ρ1 := ρ3) fun j q h hc => by
            rcases fts j q h with z | ⟨z, nr⟩
            · exact absurd z (nc q hc)
            · exact .inl (back j q nr z)
          dsimp only [E.enO, E.frW] at p
          cases w with
          | o i => exact p.elim
          | t d => exact p x F' H' (s12.trans a.ff) R3 r
          | f zs => exact p x F' H' (s12.trans a.ff) R3 tw
          | g b es => exact p x F' H' (s12.trans a.ff) R3 tw
          | u t => exact p x F' H' (s12.trans a.ff) R3 tw
theorem lift_callO {ks : List Pm} {m : List D → List Tr → FrO} {mas : AM} (σ : L2.St) (H : Hp) (Q : VK) (h : liftE c wx (E.callO ks m mas) σ H Q) : tCallE (spO K mg ks m) wx (liftA c wx mas) σ H Q := by
  obtain ⟨F, ρ, R, p⟩ := h
  exact ⟨F, ρ, R, p.bnd.im fun ws ρ1 p xs F1 H1 s1 R1 r1 => coW_ok s1 R1 r1 p⟩
theorem lift_callOK {ks : List Pm} {m : List D → List Tr → FrO} {g : List W → List W → List W} {gV : List V → List V → List V} {ma mb : AM} (hg : ∀ {F H : Hp} {σ : L2.St} {ρ : Env} {vs zs : List V} {ds es : List W}, RdWs c F σ H ρ vs ds → RdWs c F σ H ρ zs es → RdWs c F σ H ρ (gV vs zs) (g ds es))
    (σ : L2.St) (H : Hp) (Q : VK) (h : liftE c wx (E.callOK ks m g ma mb) σ H Q) : tCallKE (spO K mg ks m) gV wx (liftA c wx ma) (liftA c wx mb) σ H Q := by
  obtain ⟨F, ρ, R, p⟩ := h
  exact ⟨F, ρ, R, p.bnd.im fun ws1 ρ1 p xs F1 H1 s1 R1 r1 => ⟨F1, ρ1, R1, Pst.up s1 p.bnd fun ws2 ρ2 p zs F2 H2 s2 R2 r2 => coW_ok (s1.trans s2) R2 (hg (r1.up s2) r2) p⟩⟩
theorem pd_callOK {X : Cx} {e : Expr} {ks : List Pm} {m : List D → List Tr → FrO} {g : List W → List W → List W} {gV : List V → List V → List V} {ma mb : AM} (hg : ∀ {F H : Hp} {σ : L2.St} {ρ : Env} {vs zs : List V} {ds es : List W}, RdWs c F σ H ρ vs ds → RdWs c F σ H ρ zs es → RdWs c F σ H ρ (gV vs zs) (g ds es))
    (h : PE X e (tCallKE (spO K mg ks m) gV wx (liftA c wx ma) (liftA c wx mb))) : PE X e (liftE c wx (E.callOK ks m g ma mb)) := pd_of h (lift_callOK hg)
theorem pd_callO {X : Cx} {e : Expr} {ks : List Pm} {m : List D → List Tr → FrO} {mas : AM} (h : PE X e (tCallE (spO K mg ks m) wx (liftA c wx mas))) : PE X e (liftE c wx (E.callO ks m mas)) := pd_of h lift_callO
end
/-! ### the def's side -/
def hasPend : Tr → Bool
  | .n (.ins _) ts => ts.any fun p => p.1 == .f "pending"
  | _ => false
def slotO : Pm → Tr → Slot
  | .io, .l ds => .ol true ds
  | .io, t => .ob (.io (hasPend t)) t
  | .ro, .fz d => .tr d
  | .ro, t => .ob .ro t
  | .d, _ => .un
@[simp] def envO : List Pm → List D → List Tr → List Slot
  | .d :: ks, d :: ds, ts => .tr d :: envO ks ds ts
  | .io :: ks, ds, t :: ts => slotO .io t :: envO ks ds ts
  | .ro :: ks, ds, t :: ts => slotO .ro t :: envO ks ds ts
  | _, _, _ => []
def outS : Option Slot → Option Tr
  | some (.ol true ds) => some (.l ds)
  | some (.ob (.io _) t) => some t
  | _ => none
@[simp] def outO : List Pm → Nat → Env → Option (List Tr)
  | [], _, _ => some []
  | .d :: ks, i, ρ => outO ks (i + 1) ρ
  | .io :: ks, i, ρ => match outS ρ[i]? with
    | some t => (outO ks (i + 1) ρ).map fun l => t :: l
    | none => none
  | .ro :: ks, i, ρ => (outO ks (i + 1) ρ).map fun l => .fz .non :: l
def mkO (w : W) : Option (List Tr) → FrO
  | some ts => .ok w ts
  | none => .bad
def mxO (c : Str) (fs : List (Str × D)) : Option (List Tr) → FrO
  | some ts => .ex c fs ts
  | none => .bad
def endO (ks : List Pm) : Z Sig → FrO
  | .ok (.rt (.t d)) ρ => mkO (.t d) (outO ks 0 ρ)
  | .ok (.rt (.f ds)) ρ => mkO (.f ds) (outO ks 0 ρ)
  | .ok (.rt (.g b es)) ρ => mkO (.g b es) (outO ks 0 ρ)
  | .ok (.rt (.u t)) ρ => mkO (.u t) (outO ks 0 ρ)
  | .ok (.rt (.o _)) _ => .bad
  | .ok .nx ρ => mkO (.t .non) (outO ks 0 ρ)
  | .ok .bk _ => .bad
  | .ok .ct _ => .bad
  | .ex c fs ρ => mxO c fs (outO ks 0 ρ)
  | .bad => .bad
@[simp] def runO (ks : List Pm) (k : Nat) (b : SM) : List D → List Tr → FrO := fun ds ts => endO ks (b (envO ks ds ts ++ List.replicate k .un))
/-- the cells of the i-th argument, if it is one to be written -/
def IOof (H : Hp) : List Pm → List V → List Tr → Nat → Addr → Prop
  | .d :: ks, _ :: vs, ts, i + 1, q => IOof H ks vs ts i q
  | .io :: _, v :: _, t :: _, 0, q => ft H t v q
  | .io :: ks, _ :: vs, _ :: ts, i + 1, q => IOof H ks vs ts i q
  | .ro :: ks, _ :: vs, _ :: ts, i + 1, q => IOof H ks vs ts i q
  | _, _, _, _, _ => False
def rtO : List Pm → List V → Nat → Option Addr
  | .io :: _, .ref a :: _, 0 => some a
  | _ :: ks, _ :: vs, i + 1 => rtO ks vs i
  | _, _, _ => none
section
variable {K : PySem.W.Frag} {mg : Str → Option Value} {c : Ctx K mg} {wx : WX} {F F' H H' : Hp} {σ : L2.St} {ρ : Env}
theorem OwL.keys : ∀ {a : Addr} {kvs : List (Ky × V)} {ts : List (Ky × Tr)}, OwL K mg F H a kvs ts → kvs.map (·.1) = ts.map (·.1)
  | _, _, _, .nil => rfl
  | _, _, _, .cons _ r _ _ _ => by rw [List.map_cons, List.map_cons, OwL.keys r]
theorem look_key {f : Str} : ∀ {fs : List (Str × V)}, Ky.f f ∈ (fs.map fun p => (Ky.f p.1, p.2)).map (·.1) → ∃ y, fs.lookup f = some y
  | [], h => by simp at h
  | (n, v) :: fs, h => by
    rw [List.map_cons, List.map_cons] at h
    rw [List.lookup]
    cases q : f == n with
    | true => exact ⟨v, rfl⟩
    | false =>
      rcases List.mem_cons.mp h with z | z
      · injection z with z; subst z; simp at q
      · exact look_key z
theorem pend_of {v : V} {t : Tr} {q : Addr} (h : Ow K mg F H v t) (e : v = .ref q) (p : hasPend t = true) : ∃ y, PendAt H q y := by
  cases h with
  | fz _ => cases p
  | l _ _ => cases p
  | g _ => cases p
  | @n a o k ts ha kd r =>
    cases e
    cases k with
    | ins cl =>
      obtain ⟨C, dx, fs, hm, rfl⟩ := kd
      have kk := r.keys
      unfold hasPend at p
      obtain ⟨x, hx, e⟩ := List.any_eq_true.mp p
      have e : x.1 = Ky.f "pending" := by simpa using e
      have m : Ky.f "pending" ∈ ts.map (·.1) := by rw [← e]; exact List.mem_map_of_mem hx
      rw [← kk] at m
      obtain ⟨y, hy⟩ := look_key m
      exact ⟨y, C, dx, fs, ha, hy⟩
    | _ => cases p
theorem IOof_FtI : ∀ {ks : List Pm} {vs : List V} {ts : List Tr} {q : Addr}, (∃ i, IOof H ks vs ts i q) ↔ FtI H ks vs ts q
  | .d :: ks, _ :: vs, ts, q => by
    rw [FtI, ← IOof_FtI (ks := ks)]
    constructor
    · rintro ⟨i, h⟩
      cases i with
      | zero => simp [IOof] at h
      | succ i => rw [IOof] at h; exact ⟨i, h⟩
    · rintro ⟨i, h⟩; exact ⟨i + 1, by rw [IOof]; exact h⟩
  | .io :: ks, v :: vs, t :: ts, q => by
    rw [FtI, ← IOof_FtI (ks := ks)]
    constructor
    · rintro ⟨i, h⟩
      cases i with
      | zero => rw [IOof] at h; exact .inl h
      | succ i => rw [IOof] at h; exact .inr ⟨i, h⟩
    · rintro (h | ⟨i, h⟩)
      · exact ⟨0, by rw [IOof]; exact h⟩
      · exact ⟨i + 1, by rw [IOof]; exact h⟩
  | .ro :: ks, _ :: vs, _ :: ts, q => by
    rw [FtI, ← IOof_FtI (ks := ks)]
    constructor
    · rintro ⟨i, h⟩
      cases i with
      | zero => simp [IOof] at h
      | succ i => rw [IOof] at h; exact ⟨i, h⟩
    · rintro ⟨i, h⟩; exact ⟨i + 1, by rw [IOof]; exact h⟩
  | [], _, _, q => by simp [IOof, FtI]
  | .d :: _, [], _, q => by simp [IOof, FtI]
  | .io :: _, [], _, q => by simp [IOof, FtI]
  | .ro :: _, [], _, q => by simp [IOof, FtI]
  | .io :: _, _ :: _, [], q => by simp [IOof, FtI]
  | .ro :: _, _ :: _, [], q => by simp [IOof, FtI]
theorem slotO_ok {k : Pm} {i : Nat} {v : V} {t : Tr} (e : σ[i]? = some (some v)) (ow : Ow K mg F H v t) (n : ∀ q, ft H t v q → F q = none) (nP : ∀ q, c.P q = none) (hH : c.H0 = H) (io : k = .io → (∀ q, ft H t v q → c.IO i q) ∧ ∃ a, v = .ref a ∧ c.rt i = some a) :
    RdS c F σ H i (slotO k t) ∧ ∀ q, FtS σ H i (slotO k t) q → ft H t v q := by
  have ob : ∀ m, (∀ q, ft H t v q → Cell c i m q) → (∀ b, m = Md.io b → ∃ q, v = .ref q ∧ c.rt i = some q ∧ (b = true → ∃ y, PendAt c.H0 q y)) → RdS c F σ H i (.ob m t) ∧ ∀ q, FtS σ H i (.ob m t) q → ft H t v q := fun m ce w =>
    ⟨⟨v, e, ow, fun q hq => ⟨n q hq, ce q hq⟩, w⟩, fun q ⟨v2, e2, h⟩ => by rw [e] at e2; cases e2; exact h⟩
  cases k with
  | d => exact ⟨trivial, fun q h => h.elim⟩
  | io =>
    obtain ⟨ci, a, ea, er⟩ := io rfl
    have gen : RdS c F σ H i (.ob (.io (hasPend t)) t) ∧ ∀ q, FtS σ H i (.ob (.io (hasPend t)) t) q → ft H t v q := ob _ (fun q hq => ⟨.inr (ci q hq), nP q⟩) fun b eb => by
      cases eb
      exact ⟨a, ea, er, fun hp => by rw [hH]; exact pend_of ow ea hp⟩
    cases t with
    | l ds =>
      cases ow with
      | @l a' vs _ h r =>
        cases ea
        refine ⟨⟨a, vs, e, n a (by rw [ft]), h, r, by rw [if_pos rfl]; exact ⟨er, ci a (by rw [ft]), nP a⟩⟩, fun q hq => ?_⟩
        have hq : σ[i]? = some (some (.ref q)) := hq
        rw [e] at hq; cases hq; rw [ft]
    | _ => exact gen
  | ro =>
    have gen : RdS c F σ H i (.ob .ro t) ∧ ∀ q, FtS σ H i (.ob .ro t) q → ft H t v q := ob _ (fun q _ => nP q) fun b eb => nomatch eb
    cases t with
    | fz d =>
      cases ow with
      | fz r => exact ⟨⟨v, e, r⟩, fun q h => h.elim⟩
    | _ => exact gen
theorem envO_ok (nP : ∀ q, c.P q = none) (hH : c.H0 = H) : ∀ {ks : List Pm} {vs : List V} {ds : List D} {ts : List Tr}, ArgO K mg F H ks vs ds ts → ∀ n, (∀ i v, vs[i]? = some v → σ[n + i]? = some (some v)) → (∀ i q, IOof H ks vs ts i q → c.IO (n + i) q) → (∀ i a, rtO ks vs i = some a → c.rt (n + i) = some a) →
    (∀ i s, (envO ks ds ts)[i]? = some s → RdS c F σ H (n + i) s ∧ ∀ q, FtS σ H (n + i) s q → FtA H ks vs ts q) ∧ ∀ i j s s' q, (envO ks ds ts)[i]? = some s → (envO ks ds ts)[j]? = some s' → FtS σ H (n + i) s q → FtS σ H (n + j) s' q → i = j
  | _, _, _, _, .nil, n, hv, hio, hrt => ⟨fun i s e => by simp at e, fun i j s s' q e => by simp at e⟩
  | _, _, _, _, .d (v := v) (d := d) rv r, n, hv, hio, hrt => by
    obtain ⟨h1, h2⟩ := envO_ok nP hH r (n + 1) (fun i v e => by have := hv (i + 1) v e; rwa [show n + 1 + i = n + (i + 1) by omega]) (fun i q h => by have := hio (i + 1) q (by rw [IOof]; exact h); rwa [show n + 1 + i = n + (i + 1) by omega]) (fun i a h => by have := hrt (i + 1) a h; rwa [show n + 1 + i = n + (i + 1) by omega])
    refine ⟨fun i s e => ?_, fun i j s s' q ei ej fi fj => ?_⟩
    · cases i with
      | zero => cases e; exact ⟨⟨v, hv 0 v rfl, rv⟩, fun q h => h.elim⟩
      | succ i => rw [show n + (i + 1) = n + 1 + i by omega]; obtain ⟨a, b⟩ := h1 i s e; exact ⟨a, fun q h => by rw [FtA]; exact b q h⟩
    · cases i with
      | zero => cases ei; exact fi.elim
      | succ i =>
        cases j with
        | zero => cases ej; exact fj.elim
        | succ j =>
          rw [show n + (i + 1) = n + 1 + i by omega] at fi
          rw [show n + (j + 1) = n + 1 + j by omega] at fj
          rw [h2 i j s s' q ei ej fi fj]
  | _, _, _, _, .io (a := a) (t := t) ow nn r, n, hv, hio, hrt => by
    obtain ⟨h1, h2⟩ := envO_ok nP hH r (n + 1) (fun i v e => by have := hv (i + 1) v e; rwa [show n + 1 + i = n + (i + 1) by omega]) (fun i q h => by have := hio (i + 1) q (by rw [IOof]; exact h); rwa [show n + 1 + i = n + (i + 1) by omega]) (fun i a h => by have := hrt (i + 1) a h; rwa [show n + 1 + i = n + (i + 1) by omega])
    obtain ⟨s1, s2⟩ := slotO_ok (c := c) (k := .io) (i := n) (hv 0 _ rfl) ow (fun q h => (nn q h).1) nP hH fun _ => ⟨fun q h => hio 0 q (by rw [IOof]; exact h), a, rfl, hrt 0 a rfl⟩
    refine ⟨fun i s e => ?_, fun i j s s' q ei ej fi fj => ?_⟩
    · cases i with
      | zero => cases e; exact ⟨s1, fun q h => by rw [FtA]; exact .inl (s2 q h)⟩
      | succ i => rw [show n + (i + 1) = n + 1 + i by omega]; obtain ⟨a, b⟩ := h1 i s e; exact ⟨a, fun q h => by rw [FtA]; exact .inr (b q h)⟩
    · cases i with
      | zero =>
        cases j with
        | zero => rfl
        | succ j =>
          cases ei
          rw [show n + (j + 1) = n + 1 + j by omega] at fj
          exact absurd ((h1 j s' ej).2 q fj) (nn q (s2 q fi)).2
      | succ i =>
        rw [show n + (i + 1) = n + 1 + i by omega] at fi
        cases j with
        | zero => cases ej; exact absurd ((h1 i s ei).2 q fi) (nn q (s2 q fj)).2
        | succ j =>
          rw [show n + (j + 1) = n + 1 + j by omega] at fj
          rw [h2 i j s s' q ei ej fi fj]
  | _, _, _, _, .ro (v := v) (t := t) ow nn r, n, hv, hio, hrt => by
    obtain ⟨h1, h2⟩ := envO_ok nP hH r (n + 1) (fun i v e => by have := hv (i + 1) v e; rwa [show n + 1 + i = n + (i + 1) by omega]) (fun i q h => by have := hio (i + 1) q (by rw [IOof]; exact h); rwa [show n + 1 + i = n + (i + 1) by omega]) (fun i a h => by have := hrt (i + 1) a h; rwa [show n + 1 + i = n + (i + 1) by omega])
    obtain ⟨s1, s2⟩ := slotO_ok (c := c) (k := .ro) (i := n) (hv 0 _ rfl) ow (fun q h => (nn q h).1) nP hH fun z => nomatch z
    refine ⟨fun i s e => ?_, fun i j s s' q ei ej fi fj => ?_⟩
    · cases i with
      | zero => cases e; exact ⟨s1, fun q h => by rw [FtA]; exact .inl (s2 q h)⟩
      | succ i => rw [show n + (i + 1) = n + 1 + i by omega]; obtain ⟨a, b⟩ := h1 i s e; exact ⟨a, fun q h => by rw [FtA]; exact .inr (b q h)⟩
    · cases i with
      | zero =>
        cases j with
        | zero => rfl
        | succ j =>
          cases ei
          rw [show n + (j + 1) = n + 1 + j by omega] at fj
          exact absurd ((h1 j s' ej).2 q fj) (nn q (s2 q fi)).2
      | succ i =>
        rw [show n + (i + 1) = n + 1 + i by omega] at fi
        cases j with
        | zero => cases ej; exact absurd ((h1 i s ei).2 q fi) (nn q (s2 q fj)).2
        | succ j =>
          rw [show n + (j + 1) = n + 1 + j by omega] at fj
          rw [h2 i j s s' q ei ej fi fj]
theorem outS_ok {i : Nat} {u : Tr} {a : Addr} (R : Rs c F σ H ρ) (h : outS ρ[i]? = some u) (hr : ∀ a', c.rt i = some a' → a' = a) : Ow K mg F H (.ref a) u ∧ (∀ q, ft H u (.ref a) q ↔ Ft σ H ρ i q) ∧ ∀ q, ft H u (.ref a) q → F q = none ∧ (c.H0 q = none ∨ c.IO i q) := by
  cases hs : ρ[i]? with
  | none => rw [hs] at h; cases h
  | some s =>
    rw [hs] at h
    have r := R.sl i s hs
    have fi : ∀ q, Ft σ H ρ i q ↔ FtS σ H i s q := fun q => ⟨fun ⟨s', e, h⟩ => by rw [hs] at e; cases e; exact h, fun h => ⟨s, hs, h⟩⟩
    cases s with
    | ol o ds =>
      cases o with
      | false => cases h
      | true =>
        cases h
        obtain ⟨q, vs, e, n, hq, rl, w⟩ := r
        rw [if_pos rfl] at w
        cases hr q w.1
        refine ⟨.l hq rl, fun z => ?_, fun z hz => ?_⟩
        · rw [fi, ft]
          show V.ref a = .ref z ↔ σ[i]? = some (some (.ref z))
          rw [e]
          exact ⟨fun e => by cases e; rfl, fun e => by cases e; rfl⟩
        · rw [ft] at hz; cases hz; exact ⟨n, .inr w.2.1⟩
    | ob m t =>
      cases m with
      | mine => cases h
      | ro => cases h
      | io b =>
        cases h
        obtain ⟨v, e, ow, n, w⟩ := r
        obtain ⟨q, rfl, er, _⟩ := w b rfl
        cases hr q er
        refine ⟨ow, fun z => ?_, fun z hz => ⟨(n z hz).1, (n z hz).2.1⟩⟩
        rw [fi]
        exact ⟨fun h => ⟨_, e, h⟩, fun ⟨v2, e2, h⟩ => by rw [e] at e2; cases e2; exact h⟩
    | _ => cases h
theorem outO_ok {F0 H0 : Hp} (R : Rs c F σ H ρ) (hH : c.H0 = H0) : ∀ {ks : List Pm} {vs : List V} {ds : List D} {ts : List Tr}, ArgO K mg F0 H0 ks vs ds ts → ∀ n us, outO ks n ρ = some us → (∀ i q, c.IO (n + i) q → IOof H0 ks vs ts i q) → (∀ i a, c.rt (n + i) = some a → rtO ks vs i = some a) →
    PostO K mg F H0 H ks vs ts us ∧ ∀ q, FtI H ks vs us q → ∃ j, n ≤ j ∧ Ft σ H ρ j q
  | _, _, _, _, .nil, n, us, e, hio, hrt => by cases e; exact ⟨.nil, fun q h => by simp [FtI] at h⟩
  | .d :: ks, _ :: vs, _ :: ds, ts, .d rv r, n, us, e, hio, hrt => by
    rw [outO] at e
    obtain ⟨p, f⟩ := outO_ok R hH r (n + 1) us e (fun i q h => by have := hio (i + 1) q (by rwa [show n + 1 + i = n + (i + 1) by omega] at h); rwa [IOof] at this) (fun i a h => by rw [show n + 1 + i = n + (i + 1) by omega] at h; exact hrt (i + 1) a h)
    exact ⟨.d p, fun q h => by rw [FtI] at h; obtain ⟨j, l, z⟩ := f q h; exact ⟨j, by omega, z⟩⟩
  | .ro :: ks, _ :: vs, ds, t :: ts, .ro ow nn r, n, us, e, hio, hrt => by
    rw [outO] at e
    cases e2 : outO ks (n + 1) ρ with
    | none => rw [e2] at e; cases e
    | some us2 =>
      rw [e2] at e
      cases e
      obtain ⟨p, f⟩ := outO_ok R hH r (n + 1) us2 e2 (fun i q h => by have := hio (i + 1) q (by rwa [show n + 1 + i = n + (i + 1) by omega] at h); rwa [IOof] at this) (fun i a h => by rw [show n + 1 + i = n + (i + 1) by omega] at h; exact hrt (i + 1) a h)
      exact ⟨.ro p, fun q h => by rw [FtI] at h; obtain ⟨j, l, z⟩ := f q h; exact ⟨j, by omega, z⟩⟩
  | .io :: ks, .ref a :: vs, ds, t :: ts, .io ow nn r, n, us, e, hio, hrt => by
    rw [outO] at e
    cases e1 : outS ρ[n]? with
    | none => rw [e1] at e; cases e
    | some u =>
      rw [e1] at e
      dsimp only at e
      cases e2 : outO ks (n + 1) ρ with
      | none => rw [e2] at e; cases e
      | some us2 =>
        rw [e2] at e
        cases e
        obtain ⟨p, f⟩ := outO_ok R hH r (n + 1) us2 e2 (fun i q h => by have := hio (i + 1) q (by rwa [show n + 1 + i = n + (i + 1) by omega] at h); rwa [IOof] at this) (fun i a h => by rw [show n + 1 + i = n + (i + 1) by omega] at h; exact hrt (i + 1) a h)
        obtain ⟨w1, w2, w3⟩ := outS_ok (a := a) R e1 fun a' h => by have := hrt 0 a' h; cases this; rfl
        refine ⟨.io w1 (fun q hq => ⟨(w3 q hq).1, ?_, fun z => ?_⟩) p, fun q h => ?_⟩
        · rcases (w3 q hq).2 with y | y
          · exact .inr (by rw [← hH]; exact y)
          · have := hio 0 q y; rw [IOof] at this; exact .inl this
        · obtain ⟨j, l, z⟩ := f q z
          have := R.dj n j q ((w2 q).1 hq) z
          omega
        · rw [FtI] at h
          rcases h with h | h
          · exact ⟨n, Nat.le_refl n, (w2 q).1 h⟩
          · obtain ⟨j, l, z⟩ := f q h; exact ⟨j, by omega, z⟩
theorem ArgO.len : ∀ {ks : List Pm} {vs : List V} {ds : List D} {ts : List Tr}, ArgO K mg F H ks vs ds ts → vs.length = ks.length ∧ (envO ks ds ts).length = ks.length
  | _, _, _, _, .nil => ⟨rfl, rfl⟩
  | _, _, _, _, .d _ r => by simp [ArgO.len r]
  | _, _, _, _, .io _ _ r => by simp [ArgO.len r]
  | _, _, _, _, .ro _ _ r => by simp [ArgO.len r]
theorem ArgO.ioCell : ∀ {ks : List Pm} {vs : List V} {ds : List D} {ts : List Tr}, ArgO K mg F H ks vs ds ts → ∀ q, FtI H ks vs ts q → ∃ o, H q = some o ∧ notTup o
  | _, _, _, _, .nil, q, h => by simp [FtI] at h
  | _, _, _, _, .d _ r, q, h => by rw [FtI] at h; exact ArgO.ioCell r q h
  | _, _, _, _, .ro _ _ r, q, h => by rw [FtI] at h; exact ArgO.ioCell r q h
  | _, _, _, _, .io ow _ r, q, h => by
    rw [FtI] at h
    rcases h with h | h
    · exact ow.there q h
    · exact ArgO.ioCell r q h
theorem runO_go {N : List Str} {ks : List Pm} {k : Nat} {b : SM} {vs : List V} {H : Hp} {Q : VK} {E : XK} (hN : N.length = ks.length + k) (h : spO K mg ks (runO ks k b) vs H Q E) :
    liftS' K mg (fun cls d _ H => E cls d H) b { nx := fun _ G => Q .non G, rt := Q } (start N vs) H := by
  obtain ⟨l, F, ds, ts, u, ar, p⟩ := h
  obtain ⟨la, le⟩ := ar.len
  let c : Ctx K mg := .start F H (IOof H ks vs ts) (rtO ks vs)
  obtain ⟨g1, g2⟩ := envO_ok (c := c) (σ := start N vs) (fun _ => rfl) rfl ar 0 (fun i v e => by rw [Nat.zero_add]; exact start_at e) (fun i q h => by rw [Nat.zero_add]; exact h) (fun i a h => by rw [Nat.zero_add]; exact h)
  have sl : ∀ i s, (envO ks ds ts ++ List.replicate k Slot.un)[i]? = some s → s = Slot.un ∨ (envO ks ds ts)[i]? = some s := fun i s hs => by
    by_cases li : i < (envO ks ds ts).length
    · rw [List.getElem?_append_left li] at hs; exact .inr hs
    · rw [List.getElem?_append_right (by omega)] at hs
      exact .inl (List.mem_replicate.mp (List.mem_of_getElem? hs)).2
  have R : Rs c F (start N vs) H (envO ks ds ts ++ List.replicate k Slot.un) := by
    refine ⟨.start u fun q h => ar.ioCell q (IOof_FtI.1 h), by rw [start_len (by omega), List.length_append, List.length_replicate]; omega, fun i s hs => ?_, fun i j q hi hj => ?_⟩
    · rcases sl i s hs with z | z
      · subst z; trivial
      · have := (g1 i s z).1; rwa [Nat.zero_add] at this
    · obtain ⟨s, e, h⟩ := hi
      obtain ⟨s', e', h'⟩ := hj
      rcases sl i s e with z | z
      · subst z; exact h.elim
      · rcases sl j s' e' with z' | z'
        · subst z'; exact h'.elim
        · exact g2 i j s s' q z z' (by rwa [Nat.zero_add]) (by rwa [Nat.zero_add])
  refine ⟨c, F, _, R, ?_⟩
  have adv : ∀ {F' H' : Hp} {σ' : L2.St} {ρ' : Env}, Rs c F' σ' H' ρ' → AdvI (FtI H ks vs ts) F H F' H' := fun R' => R'.toHk.exit fun q => IOof_FtI
  have out : ∀ {F' H' : Hp} {σ' : L2.St} {ρ' : Env} {us : List Tr}, Rs c F' σ' H' ρ' → outO ks 0 ρ' = some us → PostO K mg F' H H' ks vs ts us ∧ ∀ q, FtI H' ks vs us q → ∃ j, 0 ≤ j ∧ Ft σ' H' ρ' j q := fun R' e =>
    outO_ok R' rfl ar 0 _ e (fun i q h => by rwa [Nat.zero_add] at h) (fun i a h => by rwa [Nat.zero_add] at h)
  have fin : ∀ {w : W} {ρ' : Env}, (∀ j, w ≠ .o j) → FrPostO K mg F H (FtI H ks vs ts) ks vs ts (mkO w (outO ks 0 ρ')) Q E → ∀ x σ' F' H', Rs c F' σ' H' ρ' → RdW c F' σ' H' ρ' x w → Q x H' := fun {w ρ'} nw p x σ' F' H' R' r' => by
    cases eo : outO ks 0 ρ' with
    | none => rw [eo] at p; exact p.elim
    | some us =>
      rw [eo] at p
      obtain ⟨po, fo⟩ := out R' eo
      refine p x F' H' (adv R') (r'.toR rfl nw) po fun q hc z => ?_
      obtain ⟨j, _, hj⟩ := fo q z
      cases w with
      | t d => exact hc
      | o j => exact hc
      | f zs => obtain ⟨q', vs, e, _, _, _, _, no⟩ := r'; have hc : x = .ref q := hc; rw [e] at hc; cases hc; exact no j hj
      | g b es => obtain ⟨q', e, _, _, _, no⟩ := r'; have hc : x = .ref q := hc; rw [e] at hc; cases hc; exact no j hj
      | u t => exact (r'.2 q hc).2.2 j hj
  dsimp only [runO] at p
  cases e : b (envO ks ds ts ++ List.replicate k Slot.un) with
  | bad => rw [e] at p; exact p.elim
  | ex cn fs ρ' =>
    rw [e] at p
    intro C dd fsV F' H' σ' m s R' hd rf
    dsimp only [endO] at p
    cases eo : outO ks 0 ρ' with
    | none => rw [eo] at p; exact p.elim
    | some us =>
      rw [eo] at p
      exact p C dd fsV F' H' m (adv R') hd rf (out R' eo).1
  | ok sg ρ' =>
    rw [e] at p
    cases sg with
    | bk => exact p.elim
    | ct => exact p.elim
    | nx => exact fun σ' F' H' s R' => fin (w := .t .non) (fun j h => by cases h) p .non σ' F' H' R' .non
    | rt w =>
      intro x σ' F' H' s R' r'
      cases w with
      | o i => exact p.elim
      | t d => exact fin (fun j h => by cases h) p x σ' F' H' R' r'
      | f zs => exact fin (fun j h => by cases h) p x σ' F' H' R' r'
      | g b es => exact fin (fun j h => by cases h) p x σ' F' H' R' r'
      | u t => exact fin (fun j h => by cases h) p x σ' F' H' R' r'
end
end Dx

/-! ## written texts that differ -/
@[simp] theorem PySem.Str.ofString_inj (a b : String) : (PySem.Str.ofString a = PySem.Str.ofString b) = (a = b) := by
  refine propext ⟨fun h => ?_, fun h => by rw [h]⟩
  rw [PySem.Str.ofString_eq_toList, PySem.Str.ofString_eq_toList] at h
  have h1 : a.toList.map Char.toNat = b.toList.map Char.toNat := by
    have := congrArg (fun s : PySem.Str => s.cps.toList) h
    simpa using this
  have inj : ∀ x y : Char, x.toNat = y.toNat → x = y := fun x y e => Char.ext (UInt32.toNat_inj.mp e)
  have h2 : ∀ l m : List Char, l.map Char.toNat = m.map Char.toNat → l = m := by
    intro l
    induction l with
    | nil => intro m e; cases m with | nil => rfl | cons _ _ => cases e
    | cons x l ih =>
      intro m e
      cases m with
      | nil => cases e
      | cons y m => rw [List.map_cons, List.map_cons] at e; rw [inj x y (List.cons.inj e).1, ih m (List.cons.inj e).2]
  exact String.toList_inj.mp (h2 _ _ h1)
namespace Dx
open PySem PySem.Spec PyProof.Rows L2 Hx
/-! ## a look at own things: they are frozen while the expression runs, and it gives nothing that is one of them -/
mutual
@[simp] def D.im : D → Bool
  | .tup ds => D.ims ds
  | .lst _ => false
  | .dct _ _ => false
  | .ins _ _ => false
  | .scr _ => false
  | .non => true
  | .bl _ => true
  | .int _ => true
  | .str _ => true
  | .ty _ => true
  | .cls _ => true
@[simp] def D.ims : List D → Bool
  | [] => true
  | d :: ds => D.im d && D.ims ds
end
def hidS : Slot → Slot
  | .tr d => .tr d
  | .un => .un
  | .ol _ _ => .un
  | .od _ _ => .un
  | .ob _ _ => .un
  | .xe _ _ => .un
def vwS : Slot → Slot
  | .tr d => .tr d
  | .un => .un
  | .ol _ ds => .tr (.lst ds)
  | .od b es => .tr (.dct b es)
  | .ob _ t => .tr t.toD
  | .xe _ _ => .un
@[simp] def vwE (is : List Nat) : Nat → Env → Env
  | _, [] => []
  | n, s :: ρ => (if n ∈ is then vwS s else hidS s) :: vwE is (n + 1) ρ
def tmR : Z W → Env → Z W
  | .ok (.t d) _, ρ => if d.im = true then .ok (.t d) ρ else .bad
  | .ok (.f ds) _, ρ => if D.ims ds = true then .ok (.f ds) ρ else .bad
  | .ok (.g b es) _, ρ => if D.ims (es.map (·.2)) = true then .ok (.g b es) ρ else .bad
  | .ok (.u _) _, _ => .bad
  | .ok (.o _) _, _ => .bad
  | .ex _ _ _, _ => .bad
  | .bad, _ => .bad
@[simp] def E.tmp (is : List Nat) (m : EM) (ρ : Env) : Z W := tmR (m (vwE is 0 ρ)) ρ
section
variable {K : PySem.W.Frag} {mg : Str → Option Value} {c : Ctx K mg} {wx : WX} {F F' H H' : Hp} {σ : L2.St} {ρ : Env}
mutual
theorem Rd.imUn {F2 : Hp} (k : ∀ q o, F q = some o → ¬ notTup o → F2 q = some o) : ∀ {v : V} {d : D}, Rd K mg F v d → d.im = true → Rd K mg F2 v d
  | _, _, .non, _ => .non
  | _, _, .bl b, _ => .bl b
  | _, _, .int i, _ => .int i
  | _, _, .str s, _ => .str s
  | _, _, .ty n, _ => .ty n
  | _, _, .cls h, _ => .cls h
  | _, _, .tup h r, e => .tup (k _ _ h id) (RdL.imUn k r (by rw [D.im] at e; exact e))
  | _, _, .lst _ _, e => by simp [D.im] at e
  | _, _, .scr _ _, e => by simp [D.im] at e
  | _, _, .dK _ _, e => by simp [D.im] at e
  | _, _, .dT _ _, e => by simp [D.im] at e
  | _, _, .ins _ _ _, e => by simp [D.im] at e
theorem RdL.imUn {F2 : Hp} (k : ∀ q o, F q = some o → ¬ notTup o → F2 q = some o) : ∀ {vs : List V} {ds : List D}, RdL K mg F vs ds → D.ims ds = true → RdL K mg F2 vs ds
  | _, _, .nil, _ => .nil
  | _, _, .cons h r, e => by
    rw [D.ims, Bool.and_eq_true] at e
    exact .cons (Rd.imUn k h e.1) (RdL.imUn k r e.2)
end
theorem RdK.imUn {F2 : Hp} (k : ∀ q o, F q = some o → ¬ notTup o → F2 q = some o) : ∀ {vs : List (Key × V)} {es : List (D × D)}, RdK K mg F vs es → D.ims (es.map (·.2)) = true → RdK K mg F2 vs es
  | _, _, .nil, _ => .nil
  | _, _, .cons h r, e => by
    rw [List.map_cons, D.ims, Bool.and_eq_true] at e
    exact .cons (h.imUn k e.1) (RdK.imUn k r e.2)
theorem RdT.imUn {F2 : Hp} (k : ∀ q o, F q = some o → ¬ notTup o → F2 q = some o) : ∀ {vs : List (List Key × V)} {es : List (D × D)}, RdT K mg F vs es → D.ims (es.map (·.2)) = true → RdT K mg F2 vs es
  | _, _, .nil, _ => .nil
  | _, _, .cons h r, e => by
    rw [List.map_cons, D.ims, Bool.and_eq_true] at e
    exact .cons (h.imUn k e.1) (RdT.imUn k r e.2)
theorem vwE_len (is : List Nat) : ∀ (ρ : Env) (n : Nat), (vwE is n ρ).length = ρ.length
  | [], _ => rfl
  | s :: ρ, n => by rw [vwE, List.length_cons, List.length_cons, vwE_len is ρ (n + 1)]
theorem vwE_at {is : List Nat} : ∀ {ρ : Env} {n i : Nat} {s : Slot}, (vwE is n ρ)[i]? = some s → ∃ s0, ρ[i]? = some s0 ∧ s = if n + i ∈ is then vwS s0 else hidS s0
  | [], _, _, _, h => by simp [vwE] at h
  | s0 :: ρ, n, 0, s, h => by rw [vwE] at h; simp at h; exact ⟨s0, rfl, h.symm⟩
  | _ :: ρ, n, i + 1, s, h => by
    rw [vwE] at h
    obtain ⟨s0, e, z⟩ := vwE_at (n := n + 1) (i := i) (by simpa using h)
    exact ⟨s0, by simpa using e, by rw [show n + (i + 1) = n + 1 + i by omega]; exact z⟩
/-- the cells that are frozen for the time being -/
def VwC (is : List Nat) (σ : L2.St) (H : Hp) (ρ : Env) (q : Addr) : Prop := ∃ i ∈ is, Ft σ H ρ i q
theorem vw_start (is : List Nat) (R : Rs c F σ H ρ) : Rs (Ctx.start (K := K) (mg := mg) (fzH F H (VwC is σ H ρ)) H (fun _ _ => False) fun _ => none) (fzH F H (VwC is σ H ρ)) σ H (vwE is 0 ρ) := by
  have nS : ∀ q, VwC is σ H ρ q → F q = none := fun q ⟨i, _, h⟩ => by obtain ⟨_, _, _, n⟩ := R.there h; exact n
  have sm := fzH_same (F := F) (H := H) (S := VwC is σ H ρ) nS
  have no : ∀ i s, (vwE is 0 ρ)[i]? = some s → s = Slot.un ∨ ∃ d v, s = Slot.tr d ∧ σ[i]? = some (some v) ∧ Rd K mg (fzH F H (VwC is σ H ρ)) v d := fun i s e => by
    obtain ⟨s0, e0, z⟩ := vwE_at e
    rw [Nat.zero_add] at z
    have r := R.sl i s0 e0
    by_cases m : i ∈ is
    · rw [if_pos m] at z
      have inn : ∀ q, FtS σ H i s0 q → fzH F H (VwC is σ H ρ) q = H q := fun q hq => fzH_in ⟨i, m, s0, e0, hq⟩
      cases s0 with
      | un => exact .inl z
      | xe _ _ => exact .inl z
      | tr d => obtain ⟨v, e, r⟩ := r; exact .inr ⟨d, v, z, e, r.up sm⟩
      | ol o ds => obtain ⟨q, vs, e, n, h, r, _⟩ := r; exact .inr ⟨_, _, z, e, .lst ((inn q e).trans h) (r.up sm)⟩
      | od b es =>
        obtain ⟨q, e, n, _, dc⟩ := r
        rcases dc with ⟨rfl, kv, h2, r⟩ | ⟨rfl, kv, h2, r⟩
        · exact .inr ⟨_, _, z, e, .dK ((inn q e).trans h2) (r.up sm)⟩
        · exact .inr ⟨_, _, z, e, .dT ((inn q e).trans h2) (r.up sm)⟩
      | ob m t => obtain ⟨v, e, ow, n, _⟩ := r; exact .inr ⟨_, v, z, e, ow.frz sm fun q hq => inn q ⟨v, e, hq⟩⟩
    · rw [if_neg m] at z
      cases s0 with
      | tr d => obtain ⟨v, e9, r⟩ := r; exact .inr ⟨d, v, z, e9, r.up sm⟩
      | un => exact .inl z
      | xe _ _ => exact .inl z
      | ol _ _ => exact .inl z
      | od _ _ => exact .inl z
      | ob _ _ => exact .inl z
  have nf : ∀ i q, ¬ Ft σ H (vwE is 0 ρ) i q := fun i q ⟨s, e, h⟩ => by
    rcases no i s e with z | ⟨d, v, z, _⟩ <;> (subst z; exact h)
  refine ⟨.start (fun q o h => ?_) fun q h => h.elim fun _ y => y.elim, by rw [vwE_len]; exact R.len, fun i s e => ?_, fun i j q h => absurd h (nf i q)⟩
  · by_cases z : VwC is σ H ρ q
    · rw [fzH_in z] at h; exact .inl h
    · rw [fzH_out z] at h; exact R.up q o h
  · rcases no i s e with z | ⟨d, v, z, e, r⟩
    · subst z; trivial
    · subst z; exact ⟨v, (by assumption), r⟩
/-- behind it, the cells are what they were -/
theorem vw_end (is : List Nat) {ρ' : Env} {c' : Ctx K mg} (hc' : c' = Ctx.start (K := K) (mg := mg) (fzH F H (VwC is σ H ρ)) H (fun _ _ => False) fun _ => none) (R : Rs c F σ H ρ) (R' : Rs c' F' σ H' ρ') :
    ∃ F2, Adv F H F2 H' ∧ (∀ q o, F' q = some o → ¬ notTup o → F2 q = some o) ∧ ∀ q, F' q = none → F2 q = none := by
  subst hc'
  have nS : ∀ q, VwC is σ H ρ q → F q = none ∧ ∃ o, H q = some o ∧ notTup o := fun q ⟨i, _, h⟩ => by obtain ⟨o, h1, h2, n⟩ := R.there h; exact ⟨n, o, h1, h2⟩
  have a := R'.toHk.exit0
  refine ⟨fun q => @ite _ (VwC is σ H ρ q) (Classical.propDecidable _) none (F' q), ⟨fun q o h => ?_, a.hh, fun q o h => ?_, fun q h n => ?_⟩, fun q o h t => ?_, fun q h => ?_⟩
  · by_cases z : VwC is σ H ρ q
    · rw [(nS q z).1] at h; cases h
    · rw [if_neg z]; exact a.ff q o (by rw [fzH_out z]; exact h)
  · by_cases z : VwC is σ H ρ q
    · rw [if_pos z] at h; cases h
    · rw [if_neg z] at h; exact a.fh q o h
  · by_cases z : VwC is σ H ρ q
    · rw [if_pos z] at h; exact absurd rfl h
    · rw [if_neg z] at h; exact a.nw q h (by rw [fzH_out z]; exact n)
  · show (@ite _ (VwC is σ H ρ q) (Classical.propDecidable _) none (F' q)) = some o
    by_cases z : VwC is σ H ρ q
    · obtain ⟨o', h1, h2⟩ := (nS q z).2
      have e : fzH F H (VwC is σ H ρ) q = some o' := by rw [fzH_in z]; exact h1
      rw [a.ff _ _ e] at h; cases h; exact absurd h2 t
    · rw [if_neg z]; exact h
  · show (@ite _ (VwC is σ H ρ q) (Classical.propDecidable _) none (F' q)) = none
    by_cases z : VwC is σ H ρ q
    · rw [if_pos z]
    · rw [if_neg z]; exact h
theorem lift_tmp {is : List Nat} {m : EM} (σ : L2.St) (H : Hp) (Q : VK) (h : liftE c wx (E.tmp is m) σ H Q) : liftE' K mg m σ H Q := by
  obtain ⟨F, ρ, R, p⟩ := h
  refine ⟨_, _, _, vw_start is R, ?_⟩
  dsimp only [E.tmp] at p
  cases e : m (vwE is 0 ρ) with
  | bad => rw [e] at p; exact p.elim
  | ex _ _ _ => rw [e] at p; exact p.elim
  | ok w ρ' =>
    rw [e] at p
    intro x F' H' s R' r'
    obtain ⟨F2, a, k, kn⟩ := vw_end is rfl R R'
    have fr : ∀ q, (Ctx.start (K := K) (mg := mg) (fzH F H (VwC is σ H ρ)) H (fun _ _ => False) fun _ => none).H0 q = none → H q = none := fun q h => h
    have no : ∀ q, H q = none → ∀ i, ¬ Ft σ H' ρ i q := fun q n i z => R.notOwn n i ((R.ftA a.hh).1 z)
    cases w with
    | t d =>
      dsimp only [tmR] at p
      by_cases im : d.im = true
      · rw [if_pos im] at p; exact p x F2 H' a.ff (R.adv a) (Rd.imUn k r' im)
      · rw [if_neg im] at p; exact p.elim
    | f ds =>
      dsimp only [tmR] at p
      by_cases im : D.ims ds = true
      · rw [if_pos im] at p
        obtain ⟨q, vs, ex, n, f, hq, r, _⟩ := r'
        exact p x F2 H' a.ff (R.adv a) ⟨q, vs, ex, kn q n, R.none0 f.1, hq, RdL.imUn k r im, no q f.1⟩
      · rw [if_neg im] at p; exact p.elim
    | g b es =>
      dsimp only [tmR] at p
      by_cases im : D.ims (es.map (·.2)) = true
      · rw [if_pos im] at p
        obtain ⟨q, ex, n, f, dc, _⟩ := r'
        refine p x F2 H' a.ff (R.adv a) ⟨q, ex, kn q n, R.none0 f.1, ?_, no q f.1⟩
        rcases dc with ⟨eb, kv, h2, r⟩ | ⟨eb, kv, h2, r⟩
        · exact .inl ⟨eb, kv, h2, RdK.imUn k r im⟩
        · exact .inr ⟨eb, kv, h2, RdT.imUn k r im⟩
      · rw [if_neg im] at p; exact p.elim
    | u _ => exact p.elim
    | o _ => exact p.elim
theorem pd_tmp {X : Cx} {e : Expr} {is : List Nat} {m : EM} (h : PE X e (liftE' K mg m)) : PE X e (liftE c wx (E.tmp is m)) := pd_of h lift_tmp
end
/-! ## an expression's value made fast -/
@[simp] def E.frz (m : EM) (ρ : Env) : Z W := (m ρ).bind fun w ρ1 => (fz w ρ1).bind fun d ρ2 => .ok (.t d) ρ2
section
variable {K : PySem.W.Frag} {mg : Str → Option Value} {c : Ctx K mg} {wx : WX} {X : Cx} {e : Expr}
theorem lift_frz {m : EM} (σ : L2.St) (H : Hp) (Q : VK) (h : liftE c wx (E.frz m) σ H Q) : liftE c wx m σ H Q := by
  obtain ⟨F, ρ, R, p⟩ := h
  refine ⟨F, ρ, R, p.bnd.im fun w ρ1 p x F1 H1 s1 R1 r1 => ?_⟩
  cases e : fz w ρ1 with
  | bad => rw [e] at p; exact p.elim
  | ex _ _ _ => exact absurd e fz_ne
  | ok d ρ2 =>
    rw [e] at p
    obtain ⟨F2, s2, R2, r2⟩ := fz_ok R1 r1 e
    exact p x F2 H1 (s1.trans s2) R2 r2
theorem pd_frz {m : EM} (h : PE X e (liftE c wx m)) : PE X e (liftE c wx (E.frz m)) := pd_of h lift_frz
end
/-! ## fields of frozen instances -/
def flR (cn f : Str) : Option D → Env → Z W
  | some (.ins c fs), ρ => if c = cn then toW ((fs.lookup f).map .t) ρ else .bad
  | _, _ => .bad
@[simp] def E.fld (cn f : Str) (a : EM) (ρ : Env) : Z W := (a ρ).bind fun w ρ1 => flR cn f (pk w.st ρ1) ρ1
section
variable {K : PySem.W.Frag} {mg : Str → Option Value} {c : Ctx K mg} {wx : WX} {X : Cx} {e : Expr}
theorem lift_fld {cn f : Str} {C : Addr} {ma : EM} (hC : mg cn = some (.ref C)) (cl : Cls K C) (na : NoAttr K C f) (σ : L2.St) (H : Hp) (Q : VK) (h : liftE c wx (E.fld cn f ma) σ H Q) : tFld K (liftE c wx ma) f σ H Q := by
  obtain ⟨F, ρ, R, p⟩ := h
  refine ⟨F, ρ, R, p.bnd.im fun w ρ1 p2 x F1 H1 s1 R1 r1 => ?_⟩
  obtain ⟨F2, s2, R2, r2⟩ := r1.toSt R1
  cases ek : pk w.st ρ1 with
  | none => rw [ek] at p2; exact p2.elim
  | some d =>
    rw [ek] at p2
    have hp := R2.pk r2 (by cases w <;> rfl) ek
    cases d with
    | ins c' fs =>
      dsimp only [flR] at p2
      by_cases ec : c' = cn
      rotate_left
      · rw [if_neg ec] at p2; exact p2.elim
      rw [if_pos ec] at p2
      subst ec
      rcases hp with hp | ⟨_, _, _, _, e, _⟩ | ⟨_, _, _, _, e, _⟩
      rotate_left
      · cases e
      · cases e
      cases hp with
      | @ins a C' dx _ fsV _ hm ha rf =>
        have hm : mg c' = some (.ref C') := hm
        rw [hC] at hm; cases hm
        cases el : fs.lookup f with
        | none => rw [el] at p2; exact p2.elim
        | some dv =>
          rw [el] at p2
          obtain ⟨v, ev, rv⟩ := rf.look el
          exact ⟨a, C, dx, fsV, v, rfl, R2.up.ins ha, cl, na, ev, p2 v F2 H1 (s1.trans s2) R2 rv⟩
    | _ => exact p2.elim
theorem pd_fld {cn f : Str} {C : Addr} {ma : EM} (hC : mg cn = some (.ref C)) (cl : Cls K C) (na : NoAttr K C f) (h : PE X e (tFld K (liftE c wx ma) f)) : PE X e (liftE c wx (E.fld cn f ma)) := pd_of h (lift_fld hC cl na)
end
/-! ## methods -/
/-- o.m(..): the receiver, then the arguments, then the keywords -/
def tMethE (C : Addr) (m : Str) (sp : Sp) (gV : List V → List V → List V) (W : WX) (to : TE) (ta tk : TA) : TE := fun σ H Q => to σ H fun x H1 => ∃ a dx fs, x = .ref a ∧ H1 a = some (.ins C dx fs) ∧ fs.lookup m = none ∧
  ta σ H1 fun vs H2 => tk σ H2 fun zs H3 => sp (gV (x :: vs) zs) H3 Q fun cls d J => W cls d σ J
section
variable {X : Cx} {k : Nat} {C f : Addr} {fd : FuncData} {ps ks : List Str} {sp : Sp} {m : Str} {apos pos : Pos} {o e : Expr} {es : List Expr} {kws : List Keyword} {to : TE} {ta tk : TA} {gV : List V → List V → List V} {W : WX}
theorem pm_go (F : FnG X.prog X.w X.K X.mg X.base (L2.CX X.prog X.w) k f fd ps sp) (hr : RoomG k X.A) (hb : ∃ g, KBinds X.K fd ps ks g gV) (tkW : Takes X W) {pins : List (Addr × Obj)} {σ : L2.St} {H : Hp} {s : Shared} {Q : VK} {us ws : List Value} {vs zs : List V}
    (J : Inv X pins σ H s) (r : Vals vs us) (rz : Vals zs ws) (q : sp (gV vs zs) H Q fun cls d J => W cls d σ J) : wpAny (model X.prog X.w) X.A (call (.ref f) us (ks.zip ws)) (EP X pins σ Q) X.xe s := by
  obtain ⟨g, hb⟩ := hb
  exact into (given := ⟨us, ks.zip ws⟩) (us := g us ws) F hr (fun e s' c => passAt tkW σ pins H s e s' J c) J (fun n => hb.to s us ws J.kIn n) (hb.rel r rz) q
/-- without arguments -/
theorem pm_0 {pl : Sem Bool} (he : PE X o to) (c : Cls X.K C) (hm : Meth X.K C m f) (F : FnG X.prog X.w X.K X.mg X.base (L2.CX X.prog X.w) k f fd ps sp) (hr : RoomG k X.A) (hb : ∃ g, KBinds X.K fd ps [] g gV) (tkW : Takes X W)
    (ht : eval (.Call (.Attribute o m apos) [] [] pos) X.env = (do
      let ov ← eval o X.env
      standAt apos.atName
      let (f, first) ← holding [ov] (getMethod ov m pl)
      callWith pos f first (backTo pos (starEach [] X.env)) (backToKw pos (keywordEach [] X.env))) := by rfl) :
    PE X (.Call (.Attribute o m apos) [] [] pos) (tMethE C m sp gV W to tNil tNil) := by
  refine ⟨fun pins s σ H Q I h => ?_⟩
  refine PySem.W.methodCall_KW (pl := pl) (thn (he.run pins s σ H _ I h) fun u s1 ⟨x, H1, I1, rx, a, dx, fs, ex, ea, l, q⟩ => ?_) ht
  subst ex
  obtain rfl : u = Value.ref a := rx
  refine getmeth_ok I1 ea c hm l ?_
  exact PySem.W.callWith_K0 (first := [.ref a]) I1.kIn hm.kp (pm_go (ws := []) F hr hb tkW I1 (.cons (a := V.ref a) (b := Value.ref a) rfl .nil) .nil q)
/-- arguments by place -/
theorem pm_a {pl : Sem Bool} (he : PE X o to) (c : Cls X.K C) (hm : Meth X.K C m f) (F : FnG X.prog X.w X.K X.mg X.base (L2.CX X.prog X.w) k f fd ps sp) (hr : RoomG k X.A) (hb : ∃ g, KBinds X.K fd ps [] g gV) (tkW : Takes X W) (ha : PA X (e :: es) ta)
    (hst : starEach (e :: es) X.env = (false, eval e X.env) :: starEach es X.env := by rfl) (hpl : (backTo pos (starEach es X.env)).any (·.1) = false := by rfl)
    (ht : eval (.Call (.Attribute o m apos) (e :: es) [] pos) X.env = (do
      let ov ← eval o X.env
      standAt apos.atName
      let (f, first) ← holding [ov] (getMethod ov m pl)
      callWith pos f first (backTo pos (starEach (e :: es) X.env)) (backToKw pos (keywordEach [] X.env))) := by rfl) :
    PE X (.Call (.Attribute o m apos) (e :: es) [] pos) (tMethE C m sp gV W to ta tNil) := by
  refine ⟨fun pins s σ H Q I h => ?_⟩
  refine PySem.W.methodCall_KW (pl := pl) (thn (he.run pins s σ H _ I h) fun u s1 ⟨x, H1, I1, rx, a, dx, fs, ex, ea, l, q⟩ => ?_) ht
  subst ex
  obtain rfl : u = Value.ref a := rx
  refine getmeth_ok I1 ea c hm l ?_
  refine PySem.W.callWith_K (first := [.ref a]) (h₀ := X.base) I.ok.mod.kin hm.kp (thn (ha.run pos pins s1 σ H1 _ I1 q) fun us s2 ⟨vs, H2, I2, r, q2⟩ => ⟨I2.kIn, ?_⟩) hst hpl
  exact pm_go (us := .ref a :: us) (ws := []) F hr hb tkW I2 (.cons (a := V.ref a) (b := Value.ref a) rfl r) .nil q2
/-- arguments by place and by name -/
theorem pm_ak {pl : Sem Bool} (he : PE X o to) (c : Cls X.K C) (hm : Meth X.K C m f) (F : FnG X.prog X.w X.K X.mg X.base (L2.CX X.prog X.w) k f fd ps sp) (hr : RoomG k X.A) (hb : ∃ g, KBinds X.K fd ps ks g gV) (tkW : Takes X W) (ha : PA X (e :: es) ta) (hk : PK X kws tk)
    (all : (backToKw pos (keywordEach kws X.env)).all (·.1.isSome) = true := by rfl) (nms : (backToKw pos (keywordEach kws X.env)).filterMap (·.1) = ks := by rfl)
    (hst : starEach (e :: es) X.env = (false, eval e X.env) :: starEach es X.env := by rfl)
    (hpl : ((backTo pos (starEach (e :: es) X.env)).any (·.1) || (backToKw pos (keywordEach kws X.env)).any (·.1.isNone)) = false := by rfl)
    (ht : eval (.Call (.Attribute o m apos) (e :: es) kws pos) X.env = (do
      let ov ← eval o X.env
      standAt apos.atName
      let (f, first) ← holding [ov] (getMethod ov m pl)
      callWith pos f first (backTo pos (starEach (e :: es) X.env)) (backToKw pos (keywordEach kws X.env))) := by rfl) :
    PE X (.Call (.Attribute o m apos) (e :: es) kws pos) (tMethE C m sp gV W to ta tk) := by
  refine ⟨fun pins s σ H Q I h => ?_⟩
  refine PySem.W.methodCall_KW (pl := pl) (thn (he.run pins s σ H _ I h) fun u s1 ⟨x, H1, I1, rx, a, dx, fs, ex, ea, l, q⟩ => ?_) ht
  subst ex
  obtain rfl : u = Value.ref a := rx
  refine getmeth_ok I1 ea c hm l ?_
  refine PySem.W.callWith_KW (first := [.ref a]) (h₀ := X.base) I.ok.mod.kin hm.kp all (thn (ha.run pos pins s1 σ H1 _ I1 q) fun us s2 ⟨vs, H2, I2, r, q2⟩ => ?_) hpl hst
  refine thn (hk.run pos pins s2 σ H2 _ I2 q2) fun ws s3 ⟨zs, H3, I3, rz, q3⟩ => ?_
  refine ⟨I3.kIn, ?_⟩
  rw [nms]
  exact pm_go (us := .ref a :: us) F hr hb tkW I3 (.cons (a := V.ref a) (b := Value.ref a) rfl r) rz q3
/-- arguments by name alone -/
theorem pm_k {pl : Sem Bool} (he : PE X o to) (c : Cls X.K C) (hm : Meth X.K C m f) (F : FnG X.prog X.w X.K X.mg X.base (L2.CX X.prog X.w) k f fd ps sp) (hr : RoomG k X.A) (hb : ∃ g, KBinds X.K fd ps ks g gV) (tkW : Takes X W) (hk : PK X kws tk)
    (all : (backToKw pos (keywordEach kws X.env)).all (·.1.isSome) = true := by rfl) (nms : (backToKw pos (keywordEach kws X.env)).filterMap (·.1) = ks := by rfl)
    (hpl : ((backTo pos (starEach [] X.env)).any (·.1) || (backToKw pos (keywordEach kws X.env)).any (·.1.isNone)) = false := by rfl)
    (ht : eval (.Call (.Attribute o m apos) [] kws pos) X.env = (do
      let ov ← eval o X.env
      standAt apos.atName
      let (f, first) ← holding [ov] (getMethod ov m pl)
      callWith pos f first (backTo pos (starEach [] X.env)) (backToKw pos (keywordEach kws X.env))) := by rfl) :
    PE X (.Call (.Attribute o m apos) [] kws pos) (tMethE C m sp gV W to tNil tk) := by
  refine ⟨fun pins s σ H Q I h => ?_⟩
  refine PySem.W.methodCall_KW (pl := pl) (thn (he.run pins s σ H _ I h) fun u s1 ⟨x, H1, I1, rx, a, dx, fs, ex, ea, l, q⟩ => ?_) ht
  subst ex
  obtain rfl : u = Value.ref a := rx
  refine getmeth_ok I1 ea c hm l ?_
  refine PySem.W.callWith_KW0 (first := [.ref a]) (h₀ := X.base) I.ok.mod.kin hm.kp all ?_ hpl
  refine thn (hk.run pos pins s1 σ H1 _ I1 q) fun ws s3 ⟨zs, H3, I3, rz, q3⟩ => ?_
  refine ⟨I3.kIn, ?_⟩
  rw [nms]
  exact pm_go (us := [.ref a]) F hr hb tkW I3 (.cons (a := V.ref a) (b := Value.ref a) rfl .nil) rz q3
/-! defs called by name, parameters left out -/
variable {x : Str} {p : Pos}
theorem pc_dfT (F : FnG X.prog X.w X.K X.mg X.base (L2.CX X.prog X.w) k f fd ps sp) (hr : RoomG k X.A) (hg : Gl X x) (hm : X.mg x = some (.ref f)) (kp : PySem.W.keepIn X.K (.ref f) = true) (hb : ∃ g, KBinds X.K fd ps [] g gV) (tkW : Takes X W) (ha : PA X (e :: es) ta)
    (n2 : (x == ("__debug__" : Str)) = false := by decide) (he : starEach (e :: es) X.env = (false, eval e X.env) :: starEach es X.env := by rfl) (hpl : (backTo pos (starEach es X.env)).any (·.1) = false := by rfl) :
    PE X (.Call (.Name x p) (e :: es) [] pos) (tCallKE sp gV W ta tNil) := by
  refine ⟨fun pins s σ H Q I h => wpAny_Call_Name_kw (ld_glob I hg hm ?_ n2)⟩
  refine PySem.W.callWith_K (h₀ := X.base) I.ok.mod.kin kp (thn (ha.run pos pins s σ H _ I h) fun us s1 hh => ?_) he hpl
  obtain ⟨vs, G, J, r, q⟩ := hh
  exact ⟨J.kIn, pm_go (ws := []) F hr hb tkW J r .nil q⟩
theorem pc_kwE (F : FnG X.prog X.w X.K X.mg X.base (L2.CX X.prog X.w) k f fd ps sp) (hr : RoomG k X.A) (hg : Gl X x) (hm : X.mg x = some (.ref f)) (kp : PySem.W.keepIn X.K (.ref f) = true) (hb : ∃ g, KBinds X.K fd ps ks g gV) (tkW : Takes X W) (hk : PK X kws tk)
    (all : (backToKw pos (keywordEach kws X.env)).all (·.1.isSome) = true := by rfl) (nms : (backToKw pos (keywordEach kws X.env)).filterMap (·.1) = ks := by rfl) (n2 : (x == ("__debug__" : Str)) = false := by decide)
    (pl : ((backTo pos (starEach [] X.env)).any (·.1) || (backToKw pos (keywordEach kws X.env)).any (·.1.isNone)) = false := by rfl) : PE X (.Call (.Name x p) [] kws pos) (tCallKE sp gV W tNil tk) := by
  obtain ⟨g, hb⟩ := hb
  exact pc_kwT F hr hg hm kp hb tkW hk all nms n2 pl
theorem pc_mixE (F : FnG X.prog X.w X.K X.mg X.base (L2.CX X.prog X.w) k f fd ps sp) (hr : RoomG k X.A) (hg : Gl X x) (hm : X.mg x = some (.ref f)) (kp : PySem.W.keepIn X.K (.ref f) = true) (hb : ∃ g, KBinds X.K fd ps ks g gV) (tkW : Takes X W) (ha : PA X (e :: es) ta) (hk : PK X kws tk)
    (all : (backToKw pos (keywordEach kws X.env)).all (·.1.isSome) = true := by rfl) (nms : (backToKw pos (keywordEach kws X.env)).filterMap (·.1) = ks := by rfl) (n2 : (x == ("__debug__" : Str)) = false := by decide)
    (he : starEach (e :: es) X.env = (false, eval e X.env) :: starEach es X.env := by rfl)
    (pl : ((backTo pos (starEach (e :: es) X.env)).any (·.1) || (backToKw pos (keywordEach kws X.env)).any (·.1.isNone)) = false := by rfl) : PE X (.Call (.Name x p) (e :: es) kws pos) (tCallKE sp gV W ta tk) := by
  obtain ⟨g, hb⟩ := hb
  exact pc_mixT F hr hg hm kp hb tkW ha hk all nms n2 he pl
end
end Dx

namespace Dx
open PySem PySem.Spec PyProof.Rows L2 Hx
/-! ## methods and new instances in the mirror -/
@[simp] def noKey (mn : Str) : List (Ky × Tr) → Bool
  | [] => true
  | (k, _) :: ts => if k = .f mn then false else noKey mn ts
@[simp] def noFld (mn : Str) : List (Str × D) → Bool
  | [] => true
  | (k, _) :: ts => if k = mn then false else noFld mn ts
def insS (cn mn : Str) : Option Slot → Bool
  | some (.ob _ (.n (.ins c) ts)) => decide (c = cn) && noKey mn ts
  | some (.tr (.ins c fs)) => decide (c = cn) && noFld mn fs
  | _ => false
def insW (cn mn : Str) : W → Env → Bool
  | .t (.ins c fs), _ => decide (c = cn) && noFld mn fs
  | .o i, ρ => insS cn mn ρ[i]?
  | _, _ => false
namespace E
/-- o.m(..), o an own thing or a frozen one -/
@[simp] def methO (cn mn : Str) (ks : List Pm) (m : List D → List Tr → FrO) (g : List W → List W → List W) (o : EM) (a b : AM) (ρ : Env) : Z W := (o ρ).bind fun w0 ρ0 => if insW cn mn w0.st ρ0 = true then (a ρ0).bind fun ws1 ρ1 => (b ρ1).bind fun ws2 ρ2 => coW ks m (g (w0.st :: ws1) ws2) ρ2 else .bad
/-- o.m(..), all of them values -/
@[simp] def methD (cn mn : Str) (n : Nat) (m : List D → Fr) (g : List W → List W → List W) (o : EM) (a b : AM) (ρ : Env) : Z W := (o ρ).bind fun w0 ρ0 => if insW cn mn w0.st ρ0 = true then (a ρ0).bind fun ws1 ρ1 => (b ρ1).bind fun ws2 ρ2 => (fzs (g (w0.st :: ws1) ws2) ρ2).bind fun ds ρ3 => if ds.length = n then frW (m ds) ρ3 else .bad
  else .bad
/-- a def called, parameters left out or named -/
@[simp] def callW (n : Nat) (m : List D → Fr) (g : List W → List W → List W) (a b : AM) (ρ : Env) : Z W := (a ρ).bind fun ws1 ρ1 => (b ρ1).bind fun ws2 ρ2 => (fzs (g ws1 ws2) ρ2).bind fun ds ρ3 => if ds.length = n then frW (m ds) ρ3 else .bad
def mkE (u : Tr) : Option Env → Z W
  | some ρ => .ok (.u u) ρ
  | none => .bad
def mkR (ks : List Pm) (os : List (Option Nat × Tr)) (ρ : Env) : FrO → Z W
  | .ok (.t .non) (u :: us) => mkE u (putO ks os us ρ)
  | .ex c fs (_ :: us) => exO c fs (putO ks os us ρ)
  | _ => .bad
def mkC (cn : Str) (ks : List Pm) (m : List D → List Tr → FrO) (ds : List D) (ρ : Env) : Option (List (Option Nat × Tr)) → Z W
  | some os => if nodupI os = true then mkR ks os ρ (m ds (.n (.ins cn) [] :: os.map (·.2))) else .bad
  | none => .bad
/-- C(..): ks, g without self -/
@[simp] def mk (cn : Str) (ks : List Pm) (m : List D → List Tr → FrO) (g : List W → List W → List W) (a b : AM) (ρ : Env) : Z W := (a ρ).bind fun ws1 ρ1 => (b ρ1).bind fun ws2 ρ2 => if (g ws1 ws2).length = ks.length then (fzD ks (g ws1 ws2) ρ2).bind fun ds ρ3 => mkC cn ks m ds ρ3 (takeO ks (g ws1 ws2) ρ3) else .bad
end E
/-- g keeps what is read -/
def GW (K : PySem.W.Frag) (mg : Str → Option Value) (g : List W → List W → List W) (gV : List V → List V → List V) : Prop :=
  ∀ {c : Ctx K mg} {F H : Hp} {σ : L2.St} {ρ : Env} {vs zs : List V} {ds es : List W}, RdWs c F σ H ρ vs ds → RdWs c F σ H ρ zs es → RdWs c F σ H ρ (gV vs zs) (g ds es)
section
variable {K : PySem.W.Frag} {mg : Str → Option Value} {c : Ctx K mg} {wx : WX} {F F' H H' : Hp} {σ : L2.St} {ρ : Env} {X : Cx} {e : Expr} {mo : EM} {ma mb : AM}
theorem lk_noKey {mn : Str} : ∀ {fs : List (Str × V)} {ts : List (Ky × Tr)}, (fs.map fun p => (Ky.f p.1, p.2)).map (·.1) = ts.map (·.1) → noKey mn ts = true → fs.lookup mn = none
  | [], _, _, _ => rfl
  | (n, v) :: fs, [], h, _ => by simp at h
  | (n, v) :: fs, (k, t) :: ts, h, e => by
    rw [List.map_cons, List.map_cons, List.map_cons] at h
    have h1 : Ky.f n = k := (List.cons.inj h).1
    have h2 := (List.cons.inj h).2
    rw [noKey] at e
    by_cases z : k = .f mn
    · rw [if_pos z] at e; cases e
    · rw [if_neg z] at e
      have nb : (mn == n) = false := by
        apply beq_eq_false_iff_ne.mpr
        intro y; subst y; exact z h1.symm
      rw [List.lookup, nb]
      exact lk_noKey h2 e
theorem lk_noFld {mn : Str} : ∀ {fs : List (Str × V)} {ds : List (Str × D)}, RdF K mg F fs ds → noFld mn ds = true → fs.lookup mn = none
  | _, _, .nil, _ => rfl
  | _, _, .cons (n := n) h r, e => by
    rw [noFld] at e
    by_cases z : n = mn
    · rw [if_pos z] at e; cases e
    · rw [if_neg z] at e
      have nb : (mn == n) = false := beq_eq_false_iff_ne.mpr fun y => z y.symm
      rw [List.lookup, nb]
      exact lk_noFld r e
theorem ins_rd {cn mn : Str} {C : Addr} {x : V} {c' : Str} {fs : List (Str × D)} (u : Up F H) (hC : mg cn = some (.ref C)) (r : Rd K mg F x (.ins c' fs)) (h : (decide (c' = cn) && noFld mn fs) = true) : ∃ a dx fsV, x = .ref a ∧ H a = some (.ins C dx fsV) ∧ fsV.lookup mn = none := by
  obtain ⟨h1, h2⟩ := Bool.and_eq_true_iff.mp h
  have ec := of_decide_eq_true h1
  subst ec
  cases r with
  | @ins a C' dx _ fsV _ hm ha rf =>
    rw [hC] at hm; cases hm
    exact ⟨a, dx, fsV, rfl, u.ins ha, lk_noFld rf h2⟩
theorem insW_ok {cn mn : Str} {C : Addr} {w : W} {x : V} (hC : mg cn = some (.ref C)) (R : Rs c F σ H ρ) (r : RdW c F σ H ρ x w) (h : insW cn mn w ρ = true) : ∃ a dx fs, x = .ref a ∧ H a = some (.ins C dx fs) ∧ fs.lookup mn = none := by
  cases w with
  | t d =>
    cases d with
    | ins c' fs => exact ins_rd R.up hC r h
    | _ => cases h
  | o i =>
    have es : σ[i]? = some (some x) := r
    have h : insS cn mn ρ[i]? = true := h
    cases hs : ρ[i]? with
    | none => rw [hs] at h; cases h
    | some s =>
      rw [hs] at h
      have rs := R.sl i s hs
      cases s with
      | tr d =>
        obtain ⟨v, e, rd⟩ := rs
        rw [es] at e; cases e
        cases d with
        | ins c' fs => exact ins_rd R.up hC rd h
        | _ => cases h
      | ob m t =>
        obtain ⟨v, e, ow, _⟩ := rs
        rw [es] at e; cases e
        cases ow with
        | @n a o k ts ha kd r =>
          cases k with
          | ins c' =>
            obtain ⟨h1, h2⟩ := Bool.and_eq_true_iff.mp h
            have ec := of_decide_eq_true h1
            subst ec
            obtain ⟨C', dx, fs, hm, rfl⟩ := kd
            have hm : mg c' = some (.ref C') := hm
            rw [hC] at hm; cases hm
            exact ⟨a, dx, fs, rfl, ha, lk_noKey r.keys h2⟩
          | _ => cases h
        | _ => cases h
      | _ => cases h
  | _ => cases h
theorem lift_methO {cn mn : Str} {C : Addr} {ks : List Pm} {m : List D → List Tr → FrO} {g : List W → List W → List W} {gV : List V → List V → List V} (hC : mg cn = some (.ref C)) (hg : GW K mg g gV) (σ : L2.St) (H : Hp) (Q : VK) (h : liftE c wx (E.methO cn mn ks m g mo ma mb) σ H Q) :
    tMethE C mn (spO K mg ks m) gV wx (liftE c wx mo) (liftA c wx ma) (liftA c wx mb) σ H Q := by
  obtain ⟨F, ρ, R, p⟩ := h
  refine ⟨F, ρ, R, p.bnd.im fun w0 ρ0 p x F0 H0 s0 R0 r0 => ?_⟩
  obtain ⟨F1, s1, R1, r1⟩ := r0.toSt R0
  by_cases ok : insW cn mn w0.st ρ0 = true
  rotate_left
  · rw [if_neg ok] at p; exact p.elim
  rw [if_pos ok] at p
  obtain ⟨a, dx, fs, rfl, ha, hl⟩ := insW_ok hC R1 r1 ok
  refine ⟨a, dx, fs, rfl, ha, hl, F1, ρ0, R1, Pst.up (s0.trans s1) p.bnd fun ws1 ρ1 p xs F2 H2 s2 R2 r2 => ⟨F2, ρ1, R2, Pst.up ((s0.trans s1).trans s2) p.bnd fun ws2 ρ2 p zs F3 H3 s3 R3 r3 => ?_⟩⟩
  have rw0 : RdW c F3 σ H3 ρ2 (.ref a) w0.st := r1.st_up (s2.trans s3) (by cases w0 <;> rfl)
  exact coW_ok (((s0.trans s1).trans s2).trans s3) R3 (hg (.cons (by cases w0 <;> rfl) rw0 (r2.up s3)) r3) p
theorem pd_methO {cn mn : Str} {C : Addr} {ks : List Pm} {m : List D → List Tr → FrO} {g : List W → List W → List W} {gV : List V → List V → List V} (hC : mg cn = some (.ref C)) (hg : GW K mg g gV) (h : PE X e (tMethE C mn (spO K mg ks m) gV wx (liftE c wx mo) (liftA c wx ma) (liftA c wx mb))) : PE X e (liftE c wx (E.methO cn mn ks m g mo ma mb)) := pd_of h (lift_methO hC hg)
/-- from values to a def's promise -/
theorem frP_ok {n : Nat} {m : List D → Fr} {ws : List W} {xs : List V} {F0 F1 H1 : Hp} {ρ0 ρ1 : Env} {Q : VK} (s1 : Same F0 F1) (R1 : Rs c F1 σ H1 ρ1) (r1 : RdWs c F1 σ H1 ρ0 xs ws) (p : Pst c wx F0 σ ((fzs ws ρ1).bind fun ds ρ3 => if ds.length = n then E.frW (m ds) ρ3 else .bad) fun w ρ' => ∀ x F' H', Same F0 F' → Rs c F' σ H' ρ' → RdW c F' σ H' ρ' x w → Q x H') :
    spP K mg n m xs H1 Q fun cls d J => wx cls d σ J := by
  cases e : fzs ws ρ1 with
  | bad => rw [e] at p; exact p.elim
  | ex _ _ _ => exact absurd e fzs_ne
  | ok ds ρ3 =>
    rw [e] at p
    obtain ⟨F3, s3, R3, r3⟩ := fzs_ok R1 r1 e
    have p : Pst c wx F0 σ (if ds.length = n then E.frW (m ds) ρ3 else .bad) _ := p
    have s03 := s1.trans s3
    by_cases l : ds.length = n
    · rw [if_pos l] at p
      refine ⟨by rw [r3.len]; exact l, F3, ds, R3.up, r3, ?_⟩
      cases em : m ds with
      | bad => rw [em] at p; exact p.elim
      | ex cn fs io =>
        rw [em] at p
        exact fun C dd fsV F' H' hm a hd r => p C dd fsV F' H' σ hm (s03.trans a.ff) (R3.adv a) hd r
      | ok w io =>
        rw [em] at p
        intro x F' H' a r
        cases w with
        | o i => exact p.elim
        | t d => exact p x F' H' (s03.trans a.ff) (R3.adv a) r
        | f zs => exact p x F' H' (s03.trans a.ff) (R3.adv a) (r.toW0 R3 a)
        | g b es => exact p x F' H' (s03.trans a.ff) (R3.adv a) (r.toW0 R3 a)
        | u t => exact p x F' H' (s03.trans a.ff) (R3.adv a) (r.toW0 R3 a)
    · rw [if_neg l] at p; exact p.elim
theorem lift_methD {cn mn : Str} {C : Addr} {n : Nat} {m : List D → Fr} {g : List W → List W → List W} {gV : List V → List V → List V} (hC : mg cn = some (.ref C)) (hg : GW K mg g gV) (σ : L2.St) (H : Hp) (Q : VK) (h : liftE c wx (E.methD cn mn n m g mo ma mb) σ H Q) :
    tMethE C mn (spP K mg n m) gV wx (liftE c wx mo) (liftA c wx ma) (liftA c wx mb) σ H Q := by
  obtain ⟨F, ρ, R, p⟩ := h
  refine ⟨F, ρ, R, p.bnd.im fun w0 ρ0 p x F0 H0 s0 R0 r0 => ?_⟩
  obtain ⟨F1, s1, R1, r1⟩ := r0.toSt R0
  by_cases ok : insW cn mn w0.st ρ0 = true
  rotate_left
  · rw [if_neg ok] at p; exact p.elim
  rw [if_pos ok] at p
  obtain ⟨a, dx, fs, rfl, ha, hl⟩ := insW_ok hC R1 r1 ok
  refine ⟨a, dx, fs, rfl, ha, hl, F1, ρ0, R1, Pst.up (s0.trans s1) p.bnd fun ws1 ρ1 p xs F2 H2 s2 R2 r2 => ⟨F2, ρ1, R2, Pst.up ((s0.trans s1).trans s2) p.bnd fun ws2 ρ2 p zs F3 H3 s3 R3 r3 => ?_⟩⟩
  have rw0 : RdW c F3 σ H3 ρ2 (.ref a) w0.st := r1.st_up (s2.trans s3) (by cases w0 <;> rfl)
  exact frP_ok (((s0.trans s1).trans s2).trans s3) R3 (hg (.cons (by cases w0 <;> rfl) rw0 (r2.up s3)) r3) p
theorem pd_methD {cn mn : Str} {C : Addr} {n : Nat} {m : List D → Fr} {g : List W → List W → List W} {gV : List V → List V → List V} (hC : mg cn = some (.ref C)) (hg : GW K mg g gV) (h : PE X e (tMethE C mn (spP K mg n m) gV wx (liftE c wx mo) (liftA c wx ma) (liftA c wx mb))) : PE X e (liftE c wx (E.methD cn mn n m g mo ma mb)) := pd_of h (lift_methD hC hg)
theorem lift_callW {n : Nat} {m : List D → Fr} {g : List W → List W → List W} {gV : List V → List V → List V} (hg : GW K mg g gV) (σ : L2.St) (H : Hp) (Q : VK) (h : liftE c wx (E.callW n m g ma mb) σ H Q) : tCallKE (spP K mg n m) gV wx (liftA c wx ma) (liftA c wx mb) σ H Q := by
  obtain ⟨F, ρ, R, p⟩ := h
  exact ⟨F, ρ, R, p.bnd.im fun ws1 ρ1 p xs F1 H1 s1 R1 r1 => ⟨F1, ρ1, R1, Pst.up s1 p.bnd fun ws2 ρ2 p zs F2 H2 s2 R2 r2 => frP_ok (s1.trans s2) R2 (hg (r1.up s2) r2) p⟩⟩
theorem pd_callW {n : Nat} {m : List D → Fr} {g : List W → List W → List W} {gV : List V → List V → List V} (hg : GW K mg g gV) (h : PE X e (tCallKE (spP K mg n m) gV wx (liftA c wx ma) (liftA c wx mb))) : PE X e (liftE c wx (E.callW n m g ma mb)) := pd_of h (lift_callW hg)
end
/-! ## new instances -/
def tMkE (C : Addr) (sp : Sp) (gV : List V → List V → List V) (W : WX) (ta tk : TA) : TE := fun σ H Q => ta σ H fun vs H1 => tk σ H1 fun zs H2 => ∀ x dx, H2 x = none → H2 dx = none → dx ≠ x →
  sp (.ref x :: gV vs zs) (upd (upd H2 dx (.own x)) x (.ins C dx [])) (fun v H3 => v = .non ∧ Q (.ref x) H3) fun cls d J => W cls d σ J
/-- how __init__ binds: self ahead -/
def KBi (K : PySem.W.Frag) (fd : FuncData) (ps ks : List Str) (gV : List V → List V → List V) : Prop := ∃ g : List Value → List Value → List Value,
  (∀ (s : Shared) (u : Value) (us ws : List Value), K.In s.heap → (u :: g us ws).length = ps.length → BindsTo s fd ⟨u :: us, ks.zip ws⟩ (ps.zip (u :: g us ws))) ∧
  ∀ {vs : List V} {us : List Value} {zs : List V} {ws : List Value}, Vals vs us → Vals zs ws → Vals (gV vs zs) (g us ws)
section
variable {X : Cx} {k : Nat} {C f : Addr} {fd : FuncData} {ps ks : List Str} {sp : Sp} {x : Str} {p pos : Pos} {e : Expr} {es : List Expr} {kws : List Keyword} {ta tk : TA} {gV : List V → List V → List V} {W : WX}
theorem pn_go (M : Mk X.K C f) (F : FnG X.prog X.w X.K X.mg X.base (L2.CX X.prog X.w) k f fd ps sp) (hr : RoomG (k + 1) X.A) (hb : KBi X.K fd ps ks gV) (tkW : Takes X W) {pins : List (Addr × Obj)} {σ : L2.St} {H : Hp} {s : Shared} {Q : VK} {us ws : List Value} {vs zs : List V}
    (I : Inv X pins σ H s) (r : Vals vs us) (rz : Vals zs ws) (h : ∀ x dx, H x = none → H dx = none → dx ≠ x → sp (.ref x :: gV vs zs) (upd (upd H dx (.own x)) x (.ins C dx [])) (fun v H2 => v = .non ∧ Q (.ref x) H2) fun cls d J => W cls d σ J) :
    wpAny (model X.prog X.w) X.A (call (.ref C) us (ks.zip ws)) (EP X pins σ Q) X.xe s := by
  obtain ⟨g, to, rel⟩ := hb
  have hq := h (s.heap.objs.size + 1) s.heap.objs.size (I.hok.fresh (Nat.le_succ _)) (I.hok.fresh (Nat.le_refl _)) (Nat.ne_of_lt (Nat.lt_succ_self _))
  have I2 := Inv.made (C := C) I
  have r2 : Vals (V.ref (s.heap.objs.size + 1) :: gV vs zs) (Value.ref (s.heap.objs.size + 1) :: g us ws) := .cons rfl (rel r rz)
  have hl : (Value.ref (s.heap.objs.size + 1) :: g us ws).length = ps.length := by
    have e := r2.length
    rw [F.many _ _ _ _ hq] at e
    exact e.symm
  refine wpAny_call (make_map (f := f) I.kIn M.makes M.init (beq_iff_eq.mp M.fn) (codeAny_mono (F.goes _ X.stack _ _ ⟨Value.ref (s.heap.objs.size + 1) :: us, ks.zip ws⟩ (Value.ref (s.heap.objs.size + 1) :: g us ws) _ _ _ (hr.make C us (ks.zip ws))
    (I2.env0.make C us (ks.zip ws)) (to _ _ us ws I2.kIn hl) r2 hq) fun r s' hq' => ?_))
  cases r with
  | error e => exact passAt tkW σ pins _ _ e s' I2 hq'
  | ok fl =>
    cases fl with
    | ret u =>
      obtain ⟨v, H', I3, rv, ev, q3⟩ := I2.after hq'
      subst ev
      exact ⟨rv, ⟨V.ref (s.heap.objs.size + 1), H', I3, rfl, q3⟩⟩
    | next => exact False.elim hq'
    | brk => exact False.elim hq'
    | cont => exact False.elim hq'
theorem pn_0 (M : Mk X.K C f) (F : FnG X.prog X.w X.K X.mg X.base (L2.CX X.prog X.w) k f fd ps sp) (hr : RoomG (k + 1) X.A) (hg : Gl X x) (hm : X.mg x = some (.ref C)) (hb : KBi X.K fd ps [] gV) (tkW : Takes X W)
    (hdb : (x == ("__debug__" : Str)) = false := by decide) : PE X (.Call (.Name x p) [] [] pos) (tMkE C sp gV W tNil tNil) := by
  refine ⟨fun pins s σ H Q I h => ?_⟩
  refine wpAny_Call_Name_kw (ld_glob I hg hm ?_ hdb)
  exact PySem.W.callWith_K0 I.kIn M.kp (pn_go (us := []) (ws := []) M F hr hb tkW I .nil .nil h)
theorem pn_a (M : Mk X.K C f) (F : FnG X.prog X.w X.K X.mg X.base (L2.CX X.prog X.w) k f fd ps sp) (hr : RoomG (k + 1) X.A) (hg : Gl X x) (hm : X.mg x = some (.ref C)) (hb : KBi X.K fd ps [] gV) (tkW : Takes X W) (ha : PA X (e :: es) ta)
    (hdb : (x == ("__debug__" : Str)) = false := by decide) (he : starEach (e :: es) X.env = (false, eval e X.env) :: starEach es X.env := by rfl) (hpl : (backTo pos (starEach es X.env)).any (·.1) = false := by rfl) :
    PE X (.Call (.Name x p) (e :: es) [] pos) (tMkE C sp gV W ta tNil) := by
  refine ⟨fun pins s σ H Q I h => ?_⟩
  refine wpAny_Call_Name_kw (ld_glob I hg hm ?_ hdb)
  refine PySem.W.callWith_K (h₀ := X.base) I.ok.mod.kin M.kp (thn (ha.run pos pins s σ H _ I h) fun us s1 ⟨vs, H1, I1, r, q⟩ => ⟨I1.kIn, ?_⟩) he hpl
  exact pn_go (ws := []) M F hr hb tkW I1 r .nil q
theorem pn_k (M : Mk X.K C f) (F : FnG X.prog X.w X.K X.mg X.base (L2.CX X.prog X.w) k f fd ps sp) (hr : RoomG (k + 1) X.A) (hg : Gl X x) (hm : X.mg x = some (.ref C)) (hb : KBi X.K fd ps ks gV) (tkW : Takes X W) (hk : PK X kws tk)
    (all : (backToKw pos (keywordEach kws X.env)).all (·.1.isSome) = true := by rfl) (nms : (backToKw pos (keywordEach kws X.env)).filterMap (·.1) = ks := by rfl) (n2 : (x == ("__debug__" : Str)) = false := by decide)
    (pl : ((backTo pos (starEach [] X.env)).any (·.1) || (backToKw pos (keywordEach kws X.env)).any (·.1.isNone)) = false := by rfl) : PE X (.Call (.Name x p) [] kws pos) (tMkE C sp gV W tNil tk) := by
  refine ⟨fun pins s σ H Q I h => wpAny_Call_Name_kw (ld_glob I hg hm ?_ n2)⟩
  refine PySem.W.callWith_KW0 (h₀ := X.base) I.ok.mod.kin M.kp all ?_ pl
  refine thn (hk.run pos pins s σ H _ I h) fun ws s2 hh => ?_
  obtain ⟨zs, G, J, rz, q⟩ := hh
  refine ⟨J.kIn, ?_⟩
  rw [nms]
  exact pn_go (us := []) M F hr hb tkW J .nil rz q
end
section
variable {K : PySem.W.Frag} {mg : Str → Option Value} {c : Ctx K mg} {wx : WX} {F F' H H' : Hp} {σ : L2.St} {ρ : Env} {X : Cx} {e : Expr} {ma mb : AM}
theorem ArgO.keep {H1 : Hp} (hh : Same H H1) : ∀ {ks : List Pm} {vs : List V} {ds : List D} {ts : List Tr}, ArgO K mg F H ks vs ds ts → ArgO K mg F H1 ks vs ds ts ∧ (∀ q, FtA H1 ks vs ts q ↔ FtA H ks vs ts q) ∧ ∀ q, FtI H1 ks vs ts q ↔ FtI H ks vs ts q
  | _, _, _, _, .nil => ⟨.nil, fun q => by simp [FtA], fun q => by simp [FtI]⟩
  | _, _, _, _, .d rv r => by
    obtain ⟨a, b, c⟩ := ArgO.keep hh r
    exact ⟨.d rv a, fun q => by rw [FtA, FtA]; exact b q, fun q => by rw [FtI, FtI]; exact c q⟩
  | _, _, _, _, .io ow n r => by
    obtain ⟨a, b, c⟩ := ArgO.keep hh r
    obtain ⟨w, f⟩ := ow.keep (Same.refl F) fun q o _ h => hh q o h
    exact ⟨.io w (fun q hq => ⟨(n q ((f q).1 hq)).1, fun z => (n q ((f q).1 hq)).2 ((b q).1 z)⟩) a, fun q => by rw [FtA, FtA, f q, b q], fun q => by rw [FtI, FtI, f q, c q]⟩
  | _, _, _, _, .ro ow n r => by
    obtain ⟨a, b, c⟩ := ArgO.keep hh r
    obtain ⟨w, f⟩ := ow.keep (Same.refl F) fun q o _ h => hh q o h
    exact ⟨.ro w (fun q hq => ⟨(n q ((f q).1 hq)).1, fun z => (n q ((f q).1 hq)).2 ((b q).1 z)⟩) a, fun q => by rw [FtA, FtA, f q, b q], fun q => by rw [FtI, FtI]; exact c q⟩
theorem PostO.back {H1 : Hp} (hh : Same H H1) : ∀ {ks : List Pm} {vs : List V} {ds : List D} {ts us : List Tr}, ArgO K mg F H ks vs ds ts → PostO K mg F' H1 H' ks vs ts us → PostO K mg F' H H' ks vs ts us
  | [], _, _, _, _, .nil, .nil => .nil
  | .d :: ks, _ :: _, _ :: _, _, _, .d _ r, .d p => .d (PostO.back hh r p)
  | .io :: ks, _ :: _, _, _ :: _, _ :: _, .io ow _ r, .io w n p => .io w (fun q hq => ⟨(n q hq).1, (n q hq).2.1.imp (fun z => ((ow.keep (Same.refl F) fun q o _ h => hh q o h).2 q).1 z) (fun z => hh.free z), (n q hq).2.2⟩) (PostO.back hh r p)
  | .ro :: ks, _ :: _, _, _ :: _, _ :: _, .ro _ _ r, .ro p => .ro (PostO.back hh r p)
theorem lift_mk {cn : Str} {C : Addr} {ks : List Pm} {m : List D → List Tr → FrO} {g : List W → List W → List W} {gV : List V → List V → List V} (hC : mg cn = some (.ref C)) (hg : GW K mg g gV) (σ : L2.St) (H : Hp) (Q : VK) (h : liftE c wx (E.mk cn ks m g ma mb) σ H Q) :
    tMkE C (spO K mg (.io :: ks) m) gV wx (liftA c wx ma) (liftA c wx mb) σ H Q := by
  obtain ⟨F, ρ, R, p⟩ := h
  refine ⟨F, ρ, R, p.bnd.im fun ws1 ρ1 p xs1 F1 H1 s1 R1 r1 => ⟨F1, ρ1, R1, Pst.up s1 p.bnd fun ws2 ρ2 p xs2 F2 H2 s2 R2 r2 => fun x dx nx ndx ne => ?_⟩⟩
  have rr := hg (r1.up s2) r2
  generalize g ws1 ws2 = ws at rr p
  generalize gV xs1 xs2 = xs at rr
  have s02 := s1.trans s2
  by_cases l : ws.length = ks.length
  rotate_left
  · rw [if_neg l] at p; exact p.elim
  rw [if_pos l] at p
  cases e : E.fzD ks ws ρ2 with
  | bad => rw [e] at p; exact p.elim
  | ex _ _ _ => exact absurd e fzD_ne
  | ok ds ρ3 =>
    rw [e] at p
    have p : Pst c wx F σ (E.mkC cn ks m ds ρ3 (E.takeO ks ws ρ3)) _ := p
    obtain ⟨F3, s3, R3, rd⟩ := fzD_ok R2 rr e
    cases eo : E.takeO ks ws ρ3 with
    | none => rw [eo] at p; exact p.elim
    | some os =>
      rw [eo] at p
      dsimp only [E.mkC] at p
      by_cases nd : E.nodupI os = true
      rotate_left
      · rw [if_neg nd] at p; exact p.elim
      rw [if_pos nd] at p
      have rr3 : RdWs c F3 σ H2 ρ3 xs ws := rr.up s3
      obtain ⟨ar, lk, fta, cc⟩ := takeO_ok R3 rr3.st rr3 rd eo nd
      have s03 := s02.trans s3
      have hx' : upd H2 dx (.own x) x = none := by rw [upd_ne ne.symm]; exact nx
      have hh : Same H2 (upd (upd H2 dx (.own x)) x (.ins C dx [])) := (s_new (Same.refl H2) ndx).trans (s_new (Same.refl _) hx')
      have nF : F3 x = none := R3.up.free nx
      obtain ⟨ar', fa', fi'⟩ := ar.keep hh
      have own0 : Ow K mg F3 (upd (upd H2 dx (.own x)) x (.ins C dx [])) (.ref x) (.n (.ins cn) []) := .n upd_same ⟨C, dx, [], hC, rfl⟩ .nil
      have ft0 : ∀ q, ft (upd (upd H2 dx (.own x)) x (.ins C dx [])) (.n (.ins cn) []) (.ref x) q → q = x := fun q hq => by
        rw [ft] at hq
        rcases hq with hq | ⟨a, _, hq⟩
        · cases hq; rfl
        · exact (by simpa [ftL] using hq : False).elim
      have up3 := R3.up.mono hh
      refine ⟨by rw [List.length_cons, List.length_cons, rr.len, l], F3, ds, .n (.ins cn) [] :: os.map (·.2), up3, .io own0 (fun q hq => ⟨by rw [ft0 q hq]; exact nF, fun z => ?_⟩) ar', ?_⟩
      · obtain ⟨j, t, _, hj⟩ := fta q ((fa' q).1 z)
        rw [ft0 q hq] at hj
        exact R3.notOwn nx j hj
      have conv : ∀ {F' H' : Hp} {us : List Tr} {u : Tr}, AdvI (FtI (upd (upd H2 dx (.own x)) x (.ins C dx [])) (.io :: ks) (.ref x :: xs) (.n (.ins cn) [] :: os.map (·.2))) F3 (upd (upd H2 dx (.own x)) x (.ins C dx [])) F' H' →
          PostO K mg F' (upd (upd H2 dx (.own x)) x (.ins C dx [])) H' (.io :: ks) (.ref x :: xs) (.n (.ins cn) [] :: os.map (·.2)) (u :: us) →
          AdvI (FtI H2 ks xs (os.map (·.2))) F3 H2 F' H' ∧ PostO K mg F' H2 H' ks xs (os.map (·.2)) us ∧ Ow K mg F' H' (.ref x) u ∧ ∀ q, ft H' u (.ref x) q → F' q = none ∧ H2 q = none ∧ ¬ FtI H' ks xs us q := fun {F' H' us u} a po => by
        cases po with
        | io w n po =>
          refine ⟨⟨a.ff, fun q o nS ho => ?_, a.fh, fun q h nn => ?_, fun q hq => a.io q (by rw [FtI]; exact .inr ((fi' q).2 hq)), (Stb.of hh).trans a.st⟩, po.back hh ar, w, fun q hq => ⟨(n q hq).1, ?_, (n q hq).2.2⟩⟩
          · refine a.hh q o (fun z => ?_) (hh q o ho)
            rw [FtI] at z
            rcases z with z | z
            · rw [ft0 q z] at ho; rw [nx] at ho; cases ho
            · exact nS ((fi' q).1 z)
          · rcases a.nw q h nn with y | ⟨vs, y⟩
            · exact .inl (hh.free y)
            · cases e2 : H2 q with
              | none => exact .inl rfl
              | some o => rw [hh _ _ e2] at y; cases y; exact .inr ⟨vs, rfl⟩
          · rcases (n q hq).2.1 with y | y
            · rw [ft0 q y]; exact nx
            · exact hh.free y
      cases em : m ds (.n (.ins cn) [] :: os.map (·.2)) with
      | bad => rw [em] at p; exact p.elim
      | ex cn' fs us =>
        cases us with
        | nil => rw [em] at p; exact p.elim
        | cons u us =>
          rw [em] at p
          intro C' dd fsV F' H' hm a hd r po
          obtain ⟨a2, po2, _, _⟩ := conv a po
          obtain ⟨P, back⟩ := callO_start R3 a2 cc po2
          have p : Pst c wx F σ (E.exO cn' fs (E.putO ks os us ρ3)) _ := p
          cases ep : E.putO ks os us ρ3 with
          | none => rw [ep] at p; exact p.elim
          | some ρ4 =>
            rw [ep] at p
            obtain ⟨R4, _⟩ := putO_ok R3 (R3.toHk.advI a2 fun q z => (cc q z).1) ep nd lk po2 (fun _ _ _ => rfl) (takeO_io eo nd) P
            exact p C' dd fsV F' H' σ hm (s03.trans a.ff) R4 hd r
      | ok w us =>
        rw [em] at p
        cases us with
        | nil =>
          cases w with
          | t d => cases d <;> exact p.elim
          | _ => exact p.elim
        | cons u us =>
          cases w with
          | t d =>
            cases d with
            | non =>
              intro v F' H' a r po nc
              refine ⟨Rd.inv_non r, ?_⟩
              obtain ⟨a2, po2, w, n⟩ := conv a po
              obtain ⟨P, back⟩ := callO_start R3 a2 cc po2
              have p : Pst c wx F σ (E.mkE u (E.putO ks os us ρ3)) _ := p
              cases ep : E.putO ks os us ρ3 with
              | none => rw [ep] at p; exact p.elim
              | some ρ4 =>
                rw [ep] at p
                obtain ⟨R4, fts⟩ := putO_ok R3 (R3.toHk.advI a2 fun q z => (cc q z).1) ep nd lk po2 (fun _ _ _ => rfl) (takeO_io eo nd) P
                refine p _ F' H' (s03.trans a.ff) R4 ⟨w, fun q hq => ⟨(n q hq).1, R3.none0 (n q hq).2.1, fun j hj => ?_⟩⟩
                rcases fts j q hj with z | ⟨z, nr⟩
                · exact (n q hq).2.2 z
                · exact R3.notOwn (n q hq).2.1 j (back j q nr z)
            | _ => exact p.elim
          | _ => exact p.elim
theorem pd_mk {cn : Str} {C : Addr} {ks : List Pm} {m : List D → List Tr → FrO} {g : List W → List W → List W} {gV : List V → List V → List V} (hC : mg cn = some (.ref C)) (hg : GW K mg g gV) (h : PE X e (tMkE C (spO K mg (.io :: ks) m) gV wx (liftA c wx ma) (liftA c wx mb))) : PE X e (liftE c wx (E.mk cn ks m g ma mb)) := pd_of h (lift_mk hC hg)
end
end Dx

namespace Dx
open PySem PySem.Spec PyProof.Rows L2 Hx
/-! ## an own instance's fields: stored, changed -/
@[simp] def lkT (k : Ky) : List (Ky × Tr) → Option Tr
  | [] => none
  | (k', t) :: ts => if k' = k then some t else lkT k ts
@[simp] def stT (k : Ky) (u : Tr) : List (Ky × Tr) → List (Ky × Tr)
  | [] => [(k, u)]
  | (k', t) :: ts => if k' = k then (k', u) :: ts else (k', t) :: stT k u ts
def lkV (k : Ky) : List (Ky × V) → Option V
  | [] => none
  | (k', t) :: ts => if k' = k then some t else lkV k ts
section
variable {K : PySem.W.Frag} {mg : Str → Option Value} {c : Ctx K mg} {wx : WX} {F F' H H' : Hp} {σ : L2.St} {ρ : Env}
theorem OwL.focus {k : Ky} {t1 : Tr} : ∀ {a : Addr} {kvs : List (Ky × V)} {ts : List (Ky × Tr)}, OwL K mg F H a kvs ts → lkT k ts = some t1 → ∃ v1, lkV k kvs = some v1 ∧ Ow K mg F H v1 t1 ∧ (∀ q, ft H t1 v1 q → ftL H ts kvs q) ∧ ¬ ft H t1 v1 a
  | _, _, _, .nil, e => by cases e
  | _, _, _, .cons (k := k') h r n1 n2 n3, e => by
    rw [lkT] at e
    rw [lkV]
    by_cases z : k' = k
    · rw [if_pos z] at e ⊢
      cases e
      exact ⟨_, rfl, h, fun q hq => by rw [ftL]; exact .inl hq, n2⟩
    · rw [if_neg z] at e ⊢
      obtain ⟨v1, e1, w, f, n⟩ := OwL.focus r e
      exact ⟨v1, e1, w, fun q hq => by rw [ftL]; exact .inr (f q hq), n⟩
theorem OwL.self : ∀ {a : Addr} {kvs : List (Ky × V)} {ts : List (Ky × Tr)}, OwL K mg F H a kvs ts → ∀ q, ftL H ts kvs q → q ≠ a
  | _, _, _, .nil, q, h => by simp [ftL] at h
  | a, _, _, .cons h r n1 n2 n3, q, hq => by
    rw [ftL] at hq
    rcases hq with hq | hq
    · exact fun z => n2 (by rw [← z]; exact hq)
    · exact OwL.self r q hq
theorem lkV_key {k : Ky} {v : V} : ∀ {kvs : List (Ky × V)}, lkV k kvs = some v → k ∈ kvs.map (·.1)
  | (k', v') :: kvs, h => by
    rw [lkV] at h
    by_cases z : k' = k
    · subst z; simp
    · rw [if_neg z] at h; rw [List.map_cons]; exact List.mem_cons_of_mem _ (lkV_key h)
theorem OwL.poke (s : Same F F') {k : Ky} {t1 u : Tr} {v1 : V} (kp : ∀ q o, ¬ ft H t1 v1 q → H q = some o → H' q = some o) (ow : Ow K mg F' H' v1 u) (nw : ∀ q, ft H' u v1 q → ft H t1 v1 q ∨ H q = none) : ∀ {a : Addr} {kvs : List (Ky × V)} {ts : List (Ky × Tr)}, OwL K mg F H a kvs ts → lkT k ts = some t1 → lkV k kvs = some v1 → H a ≠ none →
    OwL K mg F' H' a kvs (stT k u ts) ∧ (∀ q, ftL H' (stT k u ts) kvs q → ftL H ts kvs q ∨ H q = none) ∧ (stT k u ts).map (·.1) = ts.map (·.1)
  | _, _, _, .nil, e, _, _ => by cases e
  | a, _, _, .cons (k := k') (v := v) (t := t) (kvs := kvs) (ts := ts) h r n1 n2 n3, e, e', na => by
    rw [lkT] at e
    rw [lkV] at e'
    rw [stT]
    by_cases z : k' = k
    · rw [if_pos z] at e e' ⊢
      cases e
      cases e'
      have kr := OwL.keep (H1 := H') s r fun q o hq ho => kp q o (fun y => n3 q y hq) ho
      refine ⟨.cons ow kr.1 n1 (fun y => ?_) (fun q y w => ?_), fun q hq => ?_, rfl⟩
      · rcases nw a y with w | w
        · exact n2 w
        · exact na w
      · have w := (kr.2 q).1 w
        rcases nw q y with y | y
        · exact n3 q y w
        · obtain ⟨o, ho, _⟩ := r.there q w; rw [y] at ho; cases ho
      · rw [ftL] at hq ⊢
        rcases hq with hq | hq
        · exact (nw q hq).imp .inl id
        · exact .inl (.inr ((kr.2 q).1 hq))
    · rw [if_neg z] at e e' ⊢
      obtain ⟨w1, w2, w3⟩ := OwL.poke s kp ow nw r e e' na
      obtain ⟨v1', e1', _, f1, _⟩ := OwL.focus r e
      rw [e'] at e1'; cases e1'
      have kh := Ow.keep (H1 := H') s h fun q o hq ho => kp q o (fun y => n3 q hq (f1 q y)) ho
      refine ⟨.cons kh.1 w1 (by rw [w3]; exact n1) (fun y => n2 ((kh.2 _).1 y)) (fun q y w => ?_), fun q hq => ?_, by rw [List.map_cons, List.map_cons, w3]⟩
      · have y := (kh.2 q).1 y
        rcases w2 q w with w | w
        · exact n3 q y w
        · obtain ⟨o, ho, _⟩ := h.there q y; rw [w] at ho; cases ho
      · rw [ftL] at hq ⊢
        rcases hq with hq | hq
        · exact .inl (.inl ((kh.2 q).1 hq))
        · exact (w2 q hq).imp .inr id
theorem stT_keys {k : Ky} {u : Tr} : ∀ {ts : List (Ky × Tr)} {x : Ky}, x ∈ (stT k u ts).map (·.1) → x ∈ ts.map (·.1) ∨ x = k
  | [], x, h => by simp at h; exact .inr h
  | (k', t) :: ts, x, h => by
    rw [stT] at h
    by_cases z : k' = k
    · rw [if_pos z] at h; exact .inl h
    · rw [if_neg z] at h
      rw [List.map_cons] at h ⊢
      rcases List.mem_cons.mp h with y | y
      · exact .inl (by rw [y]; exact List.mem_cons_self)
      · exact (stT_keys y).imp (List.mem_cons_of_mem _) id
/-- a field stored -/
theorem OwL.store (s : Same F F') {f : Str} {u : Tr} {y : V} (ow : Ow K mg F' H' y u) : ∀ {a : Addr} {fs : List (Str × V)} {ts : List (Ky × Tr)}, OwL K mg F H a (fs.map fun p => (Ky.f p.1, p.2)) ts → (∀ q o, ftL H ts (fs.map fun p => (Ky.f p.1, p.2)) q → H q = some o → H' q = some o) → ¬ ft H' u y a → (∀ q, ft H' u y q → ¬ ftL H ts (fs.map fun p => (Ky.f p.1, p.2)) q) →
    OwL K mg F' H' a ((putF f y fs).map fun p => (Ky.f p.1, p.2)) (stT (.f f) u ts) ∧ ∀ q, ftL H' (stT (.f f) u ts) ((putF f y fs).map fun p => (Ky.f p.1, p.2)) q → ftL H ts (fs.map fun p => (Ky.f p.1, p.2)) q ∨ ft H' u y q
  | a, [], _, .nil, kp, na, dj => by
    refine ⟨.cons ow .nil (by simp) na (fun q _ z => by simp [ftL] at z), fun q hq => ?_⟩
    rw [stT, putF, List.map_cons, ftL] at hq
    rcases hq with hq | hq
    · exact .inr hq
    · simp [ftL] at hq
  | a, (n, v) :: fs, _, .cons (t := t) (ts := ts) h r n1 n2 n3, kp, na, dj => by
    rw [putF, stT]
    by_cases z : n = f
    · subst z
      rw [if_pos rfl, if_pos rfl]
      have kr := OwL.keep (H1 := H') s r fun q o hq ho => kp q o (by rw [List.map_cons, ftL]; exact .inr hq) ho
      refine ⟨.cons ow kr.1 n1 na (fun q hq w => dj q hq (by rw [List.map_cons, ftL]; exact .inr ((kr.2 q).1 w))), fun q hq => ?_⟩
      rw [List.map_cons, ftL] at hq
      rcases hq with hq | hq
      · exact .inr hq
      · exact .inl (by rw [List.map_cons, ftL]; exact .inr ((kr.2 q).1 hq))
    · rw [if_neg z, if_neg (fun y => z (Ky.f.inj y))]
      obtain ⟨w1, w2⟩ := OwL.store s ow r (fun q o hq ho => kp q o (by rw [List.map_cons, ftL]; exact .inr hq) ho) na (fun q hq w => dj q hq (by rw [List.map_cons, ftL]; exact .inr w))
      have kh := Ow.keep (H1 := H') s h fun q o hq ho => kp q o (by rw [List.map_cons, ftL]; exact .inl hq) ho
      refine ⟨.cons kh.1 w1 (fun y => ?_) (fun y => n2 ((kh.2 _).1 y)) (fun q y w => ?_), fun q hq => ?_⟩
      · rcases stT_keys y with y | y
        · exact n1 y
        · exact z (Ky.f.inj y)
      · have y := (kh.2 q).1 y
        rcases w2 q w with w | w
        · exact n3 q y w
        · exact dj q w (by rw [List.map_cons, ftL]; exact .inl y)
      · rw [List.map_cons, ftL] at hq
        rcases hq with hq | hq
        · exact .inl (by rw [List.map_cons, ftL]; exact .inl ((kh.2 q).1 hq))
        · rcases w2 q hq with w | w
          · exact .inl (by rw [List.map_cons, ftL]; exact .inr w)
          · exact .inr w
end
def mdW : Md → Bool
  | .ro => false
  | .mine => true
  | .io _ => true
section
variable {K : PySem.W.Frag} {mg : Str → Option Value} {c : Ctx K mg} {wx : WX} {F F' H H' : Hp} {σ : L2.St} {ρ : Env}
theorem Cell.wr {m : Md} {i : Nat} {q : Addr} (hm : mdW m = true) (h : Cell c i m q) : (c.H0 q = none ∨ c.io q) ∧ c.P q = none := by
  cases m with
  | ro => cases hm
  | mine => exact ⟨.inl h.1, h.2⟩
  | io b => exact ⟨h.1.imp id fun z => ⟨i, z⟩, h.2⟩
theorem Cell.new {m : Md} {i : Nat} {q : Addr} (h : Fresh c q) : Cell c i m q := by
  cases m with
  | ro => exact h.2
  | mine => exact h
  | io b => exact ⟨.inl h.1, h.2⟩
/-- slot i's own thing, seen -/
theorem Rs.node {i : Nat} {m : Md} {k : Nk} {ts : List (Ky × Tr)} (R : Rs c F σ H ρ) (hs : ρ[i]? = some (.ob m (.n k ts))) : ∃ a o, σ[i]? = some (some (.ref a)) ∧ H a = some o ∧ KindO mg k o ∧ OwL K mg F H a (kidsO o) ts ∧ F a = none ∧ (∀ q, ft H (.n k ts) (.ref a) q → F q = none ∧ Cell c i m q) ∧
    (∀ q, ft H (.n k ts) (.ref a) q ↔ q = a ∨ ftL H ts (kidsO o) q) ∧ (∀ q, ft H (.n k ts) (.ref a) q ↔ Ft σ H ρ i q) ∧ (∀ b, m = .io b → c.rt i = some a ∧ (b = true → ∃ y, PendAt c.H0 a y)) := by
  obtain ⟨v, e, ow, n, w⟩ := R.sl i _ hs
  cases ow with
  | @n a o _ _ ha kd r =>
    have f1 : ∀ q, ft H (.n k ts) (.ref a) q ↔ q = a ∨ ftL H ts (kidsO o) q := fun q => by
      rw [ft]
      constructor
      · rintro (h | ⟨b, eb, h⟩)
        · cases h; exact .inl rfl
        · cases eb; rw [kids_of ha] at h; exact .inr h
      · rintro (h | h)
        · subst h; exact .inl rfl
        · exact .inr ⟨a, rfl, by rw [kids_of ha]; exact h⟩
    refine ⟨a, o, e, ha, kd, r, (n a ((f1 a).2 (.inl rfl))).1, n, f1, fun q => ⟨fun h => ⟨_, hs, _, e, h⟩, fun ⟨s', e', h⟩ => ?_⟩, fun b eb => ?_⟩
    · rw [hs] at e'; cases e'
      obtain ⟨v2, e2, h⟩ := h
      rw [e] at e2; cases e2; exact h
    · obtain ⟨q, eq, er, pe⟩ := w b eb
      cases eq
      exact ⟨er, pe⟩
/-- slot i's own thing behind a change within it -/
theorem Rs.renode {i : Nat} {m : Md} {k : Nk} {ts ts' : List (Ky × Tr)} {a : Addr} {o' : HO} {S : Addr → Prop} (R : Rs c F σ H ρ) (hs : ρ[i]? = some (.ob m (.n k ts))) (hm : mdW m = true) (e : σ[i]? = some (some (.ref a))) (hS : ∀ q, S q → Ft σ H ρ i q) (ad : AdvI S F H F' H') (ha : H' a = some o') (kd : KindO mg k o') (r : OwL K mg F' H' a (kidsO o') ts')
    (cs : ∀ q, ftL H' ts' (kidsO o') q → Ft σ H ρ i q ∨ (Fresh c q ∧ F' q = none ∧ ∀ j, ¬ Ft σ H ρ j q)) : Rs c F' σ H' (ρ.set i (.ob m (.n k ts'))) := by
  obtain ⟨a0, o, e0, h0, kd0, r0, nF, n, f1, f2, w⟩ := R.node hs
  rw [e] at e0; cases e0
  have cell : ∀ q, Ft σ H ρ i q → F q = none ∧ Cell c i m q := fun q h => n q ((f2 q).2 h)
  have ftn : ∀ q, ft H' (.n k ts') (.ref a) q → q = a ∨ ftL H' ts' (kidsO o') q := fun q hq => by
    rw [ft] at hq
    rcases hq with hq | ⟨b, eb, hq⟩
    · cases hq; exact .inl rfl
    · cases eb; rw [kids_of ha] at hq; exact .inr hq
  have inr : ∀ q, ft H' (.n k ts') (.ref a) q → Ft σ H ρ i q ∨ (Fresh c q ∧ F' q = none ∧ ∀ j, ¬ Ft σ H ρ j q) := fun q hq => by
    rcases ftn q hq with z | z
    · subst z; exact .inl ((f2 _).1 ((f1 _).2 (.inl rfl)))
    · exact cs q z
  have nF' : ∀ q, Ft σ H ρ i q → F' q = none := fun q hq => by
    obtain ⟨ob, hb, t, nf⟩ := R.there hq
    exact ad.keepN nf hb t
  refine R.gen i (R.toHk.advI ad fun q z => ⟨(cell q (hS q z)).1, Cell.wr hm (cell q (hS q z)).2⟩) (by rw [List.length_set]; exact R.len) ad.ff (fun j s ne hj => ?_) fun s hj => ?_
  · have hj := (set_ne ne).1 hj
    exact ⟨hj, rfl, fun q ob hq ho t nf => ⟨ad.hh q ob (fun z => ne (R.dj j i q ⟨s, hj, hq⟩ (hS q z))) ho, ad.keepN nf ho t⟩⟩
  · obtain ⟨rfl, _⟩ := set_at hj
    refine ⟨⟨_, e, .n ha kd r, fun q hq => ?_, fun b eb => ⟨a, rfl, (w b eb).1, (w b eb).2⟩⟩, fun q hq j ne hf => ?_⟩
    · rcases inr q hq with z | ⟨z1, z2, _⟩
      · exact ⟨nF' q z, (cell q z).2⟩
      · exact ⟨z2, .new z1⟩
    · obtain ⟨v, ev, hq⟩ := hq
      rw [e] at ev; cases ev
      rcases inr q hq with z | ⟨_, _, z3⟩
      · exact ne (R.dj j i q hf z)
      · exact z3 j hf
end
/-! ### a list that a field holds -/
def obF {α : Type} (cn : Str) (k : Md → List (Ky × Tr) → Z α) : Option Slot → Z α
  | some (.ob m (.n (.ins c) ts)) => if c = cn then k m ts else .bad
  | _ => .bad
@[simp] def valsW : List W → Option (List D)
  | [] => some []
  | .t d :: ws => (valsW ws).map fun ds => d :: ds
  | _ => none
def qaR : Z (List W) → Env → Z (List D)
  | .ok ws _, ρ => toZ (valsW ws) ρ
  | .ex _ _ _, _ => .bad
  | .bad, _ => .bad
/-- arguments that touch nothing -/
@[simp] def quA (a : AM) (ρ : Env) : Z (List D) := qaR (a (vwE [] 0 ρ)) ρ
def lmoE (i : Nat) (m : Md) (cn fld : Str) (ts : List (Ky × Tr)) : Option (D × List D) → Env → Z W
  | some (d, zs), ρ => .ok (.t d) (ρ.set i (.ob m (.n (.ins cn) (stT (.f fld) (.l zs) ts))))
  | none, _ => .bad
def lmoT (f : LM) (i : Nat) (m : Md) (cn fld : Str) (ts : List (Ky × Tr)) (ds : List D) (ρ : Env) : Option Tr → Z W
  | some (.l zs) => if mdW m = true then lmoE i m cn fld ts (f zs ds) ρ else .bad
  | _ => .bad
def isL : Option Tr → Bool
  | some (.l _) => true
  | _ => false
/-- x.fld.append(..) -/
@[simp] def E.lmF (f : LM) (cn fld : Str) (i : Nat) (a : AM) (ρ : Env) : Z W := obF cn (fun m ts => if (mdW m && isL (lkT (.f fld) ts)) = true then (quA a ρ).bind fun ds ρ1 => lmoT f i m cn fld ts ds ρ1 (lkT (.f fld) ts) else .bad) ρ[i]?
def penS (cn : Str) : Option Slot → Bool
  | some (.ob (.io true) (.n (.ins c) ts)) => decide (c = cn) && isL (lkT (.f "pending") ts)
  | _ => false
/-- x.pending.append(..), whatever the arguments do -/
@[simp] def E.lmS (f : LM) (cn : Str) (i : Nat) (a : AM) (ρ : Env) : Z W := if penS cn ρ[i]? = true then (a ρ).bind fun ws ρ1 => (fzs ws ρ1).bind fun ds ρ2 => obF cn (fun m ts => lmoT f i m cn "pending" ts ds ρ2 (lkT (.f "pending") ts)) ρ2[i]? else .bad
section
variable {K : PySem.W.Frag} {mg : Str → Option Value} {c : Ctx K mg} {wx : WX} {F F' H H' : Hp} {σ : L2.St} {ρ : Env} {X : Cx} {e : Expr} {st : Stmt} {mas : AM} {me : EM}
def liftA' (K : PySem.W.Frag) (mg : Str → Option Value) (m : AM) : TA := fun σ H Q => ∃ c : Ctx K mg, liftA c WF m σ H Q
theorem paA {X : Cx} {es : List Expr} {m : AM} (h : ∀ c : Ctx K mg, PA X es (liftA c WF m)) : PA X es (liftA' K mg m) := ⟨fun pos pins s σ H Q I ⟨c, q⟩ => (h c).run pos pins s σ H Q I q⟩
theorem valsW_ok {c' : Ctx K mg} : ∀ {xs : List V} {ws : List W} {ds : List D}, RdWs c' F σ H ρ xs ws → valsW ws = some ds → RdL K mg F xs ds
  | _, [], _, .nil, e => by cases e; exact .nil
  | _, w :: ws, _, .cons st h r, e => by
    cases w with
    | t d =>
      rw [valsW] at e
      cases e2 : valsW ws with
      | none => rw [e2] at e; cases e
      | some ds2 => rw [e2] at e; cases e; exact .cons h (valsW_ok r e2)
    | _ => cases e
/-- behind arguments that touch nothing -/
theorem qu_go {G : List V → Hp → Prop} {α : Type} {k : List D → Env → Z α} {q : α → Env → Prop} (R : Rs c F σ H ρ) (p : Pst c wx F σ ((quA mas ρ).bind k) q) (go : ∀ xs F' H' ds, Adv F H F' H' → RdL K mg F' xs ds → Pst c wx F σ (k ds ρ) q → G xs H') : liftA' K mg mas σ H G := by
  refine ⟨_, _, _, vw_start [] R, ?_⟩
  dsimp only [quA] at p
  have nV : ∀ q, ¬ VwC [] σ H ρ q := fun q ⟨i, h, _⟩ => nomatch h
  cases e : mas (vwE [] 0 ρ) with
  | bad => rw [e] at p; exact p.elim
  | ex _ _ _ => rw [e] at p; exact p.elim
  | ok ws ρ' =>
    rw [e] at p
    intro xs F' H' s R' r'
    have a := R'.toHk.exit0
    have ad : Adv F H F' H' := ⟨fun q o h => a.ff q o (by rw [fzH_out (nV q)]; exact h), a.hh, a.fh, fun q h n => a.nw q h (by rw [fzH_out (nV q)]; exact n)⟩
    dsimp only [qaR] at p
    cases ev : valsW ws with
    | none => rw [ev] at p; exact p.elim
    | some ds =>
      rw [ev] at p
      exact go xs F' H' ds ad (valsW_ok r' ev) p
theorem lk_putV {f : Str} {v : V} : ∀ {fs : List (Str × V)}, lkV (.f f) (fs.map fun p => (Ky.f p.1, p.2)) = some v → fs.lookup f = some v
  | [], h => by cases h
  | (n, x) :: fs, h => by
    rw [List.map_cons, lkV] at h
    rw [List.lookup]
    by_cases z : n = f
    · subst z; rw [if_pos rfl] at h; simp; exact Option.some.inj h
    · rw [if_neg fun y => z (Ky.f.inj y)] at h
      rw [beq_eq_false_iff_ne.mpr fun y => z y.symm]
      exact lk_putV h
/-- the list in a field of slot i, changed -/
theorem Rs.pokeL {i : Nat} {m : Md} {cn fld : Str} {ts : List (Ky × Tr)} {zs : List D} (R : Rs c F σ H ρ) (hs : ρ[i]? = some (.ob m (.n (.ins cn) ts))) (hm : mdW m = true) (lk : lkT (.f fld) ts = some (.l zs)) :
    ∃ a C dx fs q vs, σ[i]? = some (some (.ref a)) ∧ mg cn = some (.ref C) ∧ H a = some (.ins C dx fs) ∧ fs.lookup fld = some (.ref q) ∧ F q = none ∧ H q = some (.lst vs) ∧ RdL K mg F vs zs ∧ ∀ vs' zs', RdL K mg F vs' zs' → Rs c F σ (upd H q (.lst vs')) (ρ.set i (.ob m (.n (.ins cn) (stT (.f fld) (.l zs') ts)))) := by
  obtain ⟨a, o, e, ha, kd, r, nF, n, f1, f2, w⟩ := R.node hs
  obtain ⟨C, dx, fs, hmg, rfl⟩ := kd
  obtain ⟨v1, e1, ow, f3, na⟩ := r.focus lk
  cases ow with
  | @l q vs _ hq rl =>
    have fq : Ft σ H ρ i q := (f2 q).1 ((f1 q).2 (.inr (f3 q (by rw [ft]))))
    have nFq := (n q ((f2 q).2 fq)).1
    refine ⟨a, C, dx, fs, q, vs, e, hmg, ha, lk_putV e1, nFq, hq, rl, fun vs' zs' rl' => ?_⟩
    have aq : a ≠ q := fun z => na (by rw [ft, z])
    have go : ∀ b ob, ¬ ft H (.l zs) (.ref q) b → H b = some ob → upd H q (.lst vs') b = some ob := fun b ob nb hb => by
      rw [upd_ne (fun z => nb (by rw [ft, z]))]; exact hb
    obtain ⟨r1, r2, _⟩ := OwL.poke (H' := upd H q (.lst vs')) (u := .l zs') (Same.refl F) go (.l upd_same rl') (fun b hb => by rw [ft] at hb ⊢; exact .inl hb) r lk e1 (by rw [ha]; exact nofun)
    refine R.renode (S := fun z => z = q) hs hm e (fun b z => by subst z; exact fq) (.putL R.up nFq hq) (by rw [upd_ne aq]; exact ha) ⟨C, dx, fs, hmg, rfl⟩ r1 fun b hb => ?_
    rcases r2 b hb with z | z
    · exact .inl ((f2 b).1 ((f1 b).2 (.inr z)))
    · refine .inr ⟨R.none0 z, R.up.free z, R.notOwn z⟩
theorem lift_lmF {r : V → List V → Hp → VK → Prop} {f : LM} {cn fld : Str} {i : Nat} {C : Addr} (hf : LmD K mg r f) (hC : mg cn = some (.ref C)) (cl : Cls K C) (na : NoAttr K C fld) (σ : L2.St) (H : Hp) (Q : VK) (h : liftE c wx (E.lmF f cn fld i mas) σ H Q) : tBM K "list" r (tFld K (tVar i) fld) (liftA' K mg mas) σ H Q := by
  obtain ⟨F, ρ, R, p⟩ := h
  dsimp only [E.lmF] at p
  cases hs : ρ[i]? with
  | none => rw [hs] at p; exact p.elim
  | some s =>
    rw [hs] at p
    unfold obF at p
    split at p
    rotate_left
    · exact p.elim
    rename_i m c' ts heq
    cases heq
    by_cases ec : c' = cn
    rotate_left
    · rw [if_neg ec] at p; exact p.elim
    rw [if_pos ec] at p
    subst ec
    dsimp only at p
    by_cases ok : (mdW m && isL (lkT (.f fld) ts)) = true
    rotate_left
    · rw [if_neg ok] at p; exact p.elim
    rw [if_pos ok] at p
    obtain ⟨hm, hl⟩ := Bool.and_eq_true_iff.mp ok
    cases el : lkT (.f fld) ts with
    | none => rw [el] at hl; cases hl
    | some t1 =>
      rw [el] at hl
      cases t1 with
      | l zs =>
        obtain ⟨a, C', dx, fs, q, vs, e, hmg, ha, lf, nq, hq, rl, _⟩ := R.pokeL hs hm el
        rw [hC] at hmg; cases hmg
        refine ⟨_, e, a, C, dx, fs, .ref q, rfl, ha, cl, na, lf, .inl ⟨rfl, vs, sq_of hq⟩, qu_go R p fun xs F' H' ds ad rx p => ?_⟩
        have R2 := R.adv ad
        obtain ⟨a2, C2, dx2, fs2, q2, vs2, e2, _, ha2, lf2, nq2, hq2, rl2, go⟩ := R2.pokeL hs hm el
        rw [e] at e2; cases e2
        rw [ad.hh _ _ ha] at ha2; cases ha2
        rw [lf] at lf2; cases lf2
        rw [el] at p
        dsimp only [lmoT] at p
        rw [if_pos hm] at p
        cases ef : f zs ds with
        | none => rw [ef] at p; exact p.elim
        | some pr =>
          rw [ef] at p
          obtain ⟨d, zs'⟩ := pr
          exact hf F' H' q vs2 zs xs ds d zs' Q nq2 hq2 rl2 rx ef fun v vs' rv rvs => p v F' _ ad.ff (go vs' zs' rvs) rv
      | _ => cases hl
theorem pd_lmF {r : V → List V → Hp → VK → Prop} {f : LM} {cn fld : Str} {i : Nat} {C : Addr} (hf : LmD K mg r f) (hC : mg cn = some (.ref C)) (cl : Cls K C) (na : NoAttr K C fld) (h : PE X e (tBM K "list" r (tFld K (tVar i) fld) (liftA' K mg mas))) : PE X e (liftE c wx (E.lmF f cn fld i mas)) := pd_of h (lift_lmF hf hC cl na)
theorem pd_lmF0 {r : V → List V → Hp → VK → Prop} {f : LM} {cn fld : Str} {i : Nat} {C : Addr} (hf : LmD K mg r f) (hC : mg cn = some (.ref C)) (cl : Cls K C) (na : NoAttr K C fld) (h : PE X e (tBM0 K "list" r (tFld K (tVar i) fld))) : PE X e (liftE c wx (E.lmF f cn fld i A.nil)) := pd_of h fun σ H Q q => by
  obtain ⟨x, e, a, C', dx, fs, v, e2, ha, cl, na, lf, t, c', F, ρ, R, p⟩ := lift_lmF (mas := A.nil) hf hC cl na σ H Q q
  exact ⟨x, e, a, C', dx, fs, v, e2, ha, cl, na, lf, t, p [] F H (Same.refl F) R .nil⟩
theorem lift_lmS {r : V → List V → Hp → VK → Prop} {f : LM} {cn : Str} {i : Nat} {C : Addr} (hf : LmD K mg r f) (hC : mg cn = some (.ref C)) (cl : Cls K C) (na : NoAttr K C "pending") (σ : L2.St) (H : Hp) (Q : VK) (h : liftE c wx (E.lmS f cn i mas) σ H Q) : tBM K "list" r (tFld K (tVar i) "pending") (liftA c wx mas) σ H Q := by
  obtain ⟨F, ρ, R, p⟩ := h
  dsimp only [E.lmS] at p
  by_cases pe : penS cn ρ[i]? = true
  rotate_left
  · rw [if_neg pe] at p; exact p.elim
  rw [if_pos pe] at p
  cases hs : ρ[i]? with
  | none => rw [hs] at pe; cases pe
  | some s =>
    rw [hs] at pe
    unfold penS at pe
    split at pe
    rotate_left
    · cases pe
    rename_i c' ts heq
    cases heq
    obtain ⟨h1, h2⟩ := Bool.and_eq_true_iff.mp pe
    have ec := of_decide_eq_true h1
    subst ec
    cases el : lkT (.f "pending") ts with
    | none => rw [el] at h2; cases h2
    | some t1 =>
      rw [el] at h2
      cases t1 with
      | l zs =>
        obtain ⟨a, C', dx, fs, q, vs, e, hmg, ha, lf, nq, hq, rl, _⟩ := R.pokeL hs rfl el
        rw [hC] at hmg; cases hmg
        obtain ⟨a0, o0, e0, _, _, _, _, _, _, _, w⟩ := R.node hs
        rw [e] at e0; cases e0
        obtain ⟨y, py⟩ := (w true rfl).2 rfl
        have p1 := R.st a y py
        obtain ⟨C1, dx1, fs1, ha1, ly⟩ := p1
        rw [ha] at ha1; cases ha1
        rw [lf] at ly; cases ly
        refine ⟨_, e, a, C, dx, fs, .ref q, rfl, ha, cl, na, lf, .inl ⟨rfl, vs, sq_of hq⟩, liftA_fz ⟨F, ρ, R, p, fun ds ρ2 xs F2 H2 s2 R2 r2 p => ?_⟩⟩
        obtain ⟨C2, dx2, fs2, ha2, ly2⟩ := R2.st a _ py
        cases hs2 : ρ2[i]? with
        | none => rw [hs2] at p; exact p.elim
        | some s2' =>
          rw [hs2] at p
          unfold obF at p
          split at p
          rotate_left
          · exact p.elim
          rename_i m c2' ts2 heq2
          cases heq2
          by_cases ec2 : c2' = c'
          rotate_left
          · rw [if_neg ec2] at p; exact p.elim
          rw [if_pos ec2] at p
          subst ec2
          dsimp only at p
          cases el2 : lkT (.f "pending") ts2 with
          | none => rw [el2] at p; exact p.elim
          | some t2 =>
            rw [el2] at p
            cases t2 with
            | l zs2 =>
              dsimp only [lmoT] at p
              by_cases hm : mdW m = true
              · rw [if_pos hm] at p
                obtain ⟨a3, C3, dx3, fs3, q3, vs3, e3, _, ha3, lf3, nq3, hq3, rl3, go⟩ := R2.pokeL hs2 hm el2
                rw [e] at e3; cases e3
                rw [ha2] at ha3; cases ha3
                rw [ly2] at lf3; cases lf3
                cases ef : f zs2 ds with
                | none => rw [ef] at p; exact p.elim
                | some pr =>
                  rw [ef] at p
                  obtain ⟨d, zs'⟩ := pr
                  exact hf F2 H2 q vs3 zs2 xs ds d zs' Q nq3 hq3 rl3 r2 ef fun v vs' rv rvs => p v F2 _ s2 (go vs' zs' rvs) rv
              · rw [if_neg hm] at p; exact p.elim
            | _ => exact p.elim
      | _ => cases h2
theorem pd_lmS {r : V → List V → Hp → VK → Prop} {f : LM} {cn : Str} {i : Nat} {C : Addr} (hf : LmD K mg r f) (hC : mg cn = some (.ref C)) (cl : Cls K C) (na : NoAttr K C "pending") (h : PE X e (tBM K "list" r (tFld K (tVar i) "pending") (liftA c wx mas))) : PE X e (liftE c wx (E.lmS f cn i mas)) := pd_of h (lift_lmS hf hC cl na)
end
/-! ### a field stored -/
def prW : W → Env → Z Tr
  | .t d, ρ => .ok (.fz d) ρ
  | .f ds, ρ => .ok (.l ds) ρ
  | .g b es, ρ => .ok (.g b es) ρ
  | .u t, ρ => .ok t ρ
  | .o i, ρ => (fz (.o i) ρ).bind fun d ρ1 => .ok (.fz d) ρ1
def attOk (m : Md) (fld : Str) (ts : List (Ky × Tr)) : Bool := mdW m && decide (ts.length < 900) && (!decide (fld = "pending") || !(lkT (.f "pending") ts).isSome)
/-- x.fld = e -/
@[simp] def S.attr (cn fld : Str) (i : Nat) (e : EM) (ρ : Env) : Z Sig := (e ρ).bind fun w ρ1 => (prW w ρ1).bind fun u ρ2 => obF cn (fun m ts => if attOk m fld ts = true then Z.ok Sig.nx (ρ2.set i (.ob m (.n (.ins cn) (stT (.f fld) u ts)))) else .bad) ρ2[i]?
def ataR (i : Nat) (cn fld : Str) (f : D → D → Option W) (d0 : D) : Option D → Env → Z Sig
  | some d1, ρ => (toW (f d0 d1) ρ).bind fun w ρ2 => (prW w ρ2).bind fun u ρ3 => obF cn (fun m ts => if attOk m fld ts = true then .ok .nx (ρ3.set i (.ob m (.n (.ins cn) (stT (.f fld) u ts)))) else .bad) ρ3[i]?
  | none, _ => .bad
def ataS (i : Nat) (cn fld : Str) (f : D → D → Option W) (e : EM) (ρ : Env) : Option Tr → Z Sig
  | some (.fz d0) => (e ρ).bind fun w ρ1 => ataR i cn fld f d0 (pk w.st ρ1) ρ1
  | _ => .bad
/-- x.fld += e, of plain values -/
@[simp] def S.attrA (cn fld : Str) (i : Nat) (f : D → D → Option W) (e : EM) (ρ : Env) : Z Sig := obF cn (fun _ ts => ataS i cn fld f e ρ (lkT (.f fld) ts)) ρ[i]?
section
variable {K : PySem.W.Frag} {mg : Str → Option Value} {c : Ctx K mg} {wx : WX} {F F' H H' : Hp} {σ : L2.St} {ρ : Env} {X : Cx} {e : Expr} {st : Stmt} {me : EM}
theorem prW_ne {w : W} {ρ : Env} {cn : Str} {fs : List (Str × D)} {ρ' : Env} : prW w ρ ≠ .ex cn fs ρ' := by
  cases w with
  | o i =>
    intro h
    dsimp only [prW] at h
    cases e : fz (.o i) ρ with
    | bad => rw [e] at h; cases h
    | ex _ _ _ => exact fz_ne e
    | ok d ρ1 => rw [e] at h; cases h
  | _ => intro h; cases h
theorem prW_ok {w : W} {u : Tr} {x : V} {ρ' : Env} (R : Rs c F σ H ρ) (r : RdW c F σ H ρ x w) (e : prW w ρ = .ok u ρ') : ∃ F', Same F F' ∧ Rs c F' σ H ρ' ∧ Ow K mg F' H x u ∧ ∀ q, ft H u x q → F' q = none ∧ Fresh c q ∧ ∀ j, ¬ Ft σ H ρ' j q := by
  cases w with
  | t d => cases e; exact ⟨F, Same.refl F, R, .fz r, fun q h => by rw [ft] at h; exact h.elim⟩
  | f ds => cases e; obtain ⟨q, vs, rfl, n, f, h, rl, no⟩ := r; exact ⟨F, Same.refl F, R, .l h rl, fun z hz => by rw [ft] at hz; cases hz; exact ⟨n, f, no⟩⟩
  | g b es => cases e; obtain ⟨q, rfl, n, f, dc, no⟩ := r; exact ⟨F, Same.refl F, R, .g dc, fun z hz => by rw [ft] at hz; cases hz; exact ⟨n, f, no⟩⟩
  | u t => cases e; exact ⟨F, Same.refl F, R, r.1, r.2⟩
  | o i =>
    dsimp only [prW] at e
    cases e1 : fz (.o i) ρ with
    | bad => rw [e1] at e; cases e
    | ex _ _ _ => rw [e1] at e; cases e
    | ok d ρ1 =>
      rw [e1] at e
      cases e
      obtain ⟨F1, s1, R1, r1⟩ := fz_ok R r e1
      exact ⟨F1, s1, R1, .fz r1, fun q h => by rw [ft] at h; exact h.elim⟩
theorem lk_pend {fs : List (Str × V)} {ts : List (Ky × Tr)} {a : Addr} (r : OwL K mg F H a (fs.map fun p => (Ky.f p.1, p.2)) ts) (n : (lkT (.f "pending") ts).isSome = false) : fs.lookup ("pending" : Str) = none := by
  have h : noKey "pending" ts = true := by
    clear r
    induction ts with
    | nil => rfl
    | cons p ts ih =>
      obtain ⟨k, t⟩ := p
      rw [lkT] at n
      rw [noKey]
      by_cases z : k = .f "pending"
      · rw [if_pos z] at n; cases n
      · rw [if_neg z] at n ⊢; exact ih n
  exact lk_noKey r.keys h
/-- behind the store -/
theorem attr_ok {i : Nat} {m : Md} {cn fld : Str} {ts : List (Ky × Tr)} {u : Tr} {y : V} {C : Addr} (R : Rs c F σ H ρ) (hC : mg cn = some (.ref C)) (hs : ρ[i]? = some (.ob m (.n (.ins cn) ts))) (ok : attOk m fld ts = true) (ow : Ow K mg F H y u) (n : ∀ q, ft H u y q → F q = none ∧ Fresh c q ∧ ∀ j, ¬ Ft σ H ρ j q) :
    ∃ a dx fs, σ[i]? = some (some (.ref a)) ∧ H a = some (.ins C dx fs) ∧ fs.length < 1000 ∧ Rs c F σ (upd H a (.ins C dx (putF fld y fs))) (ρ.set i (.ob m (.n (.ins cn) (stT (.f fld) u ts)))) := by
  obtain ⟨h12, h3⟩ := Bool.and_eq_true_iff.mp ok
  obtain ⟨hm, h2⟩ := Bool.and_eq_true_iff.mp h12
  have lt := of_decide_eq_true h2
  obtain ⟨a, o, e, ha, kd, r, nF, nn, f1, f2, w⟩ := R.node hs
  obtain ⟨C', dx, fs, hmg, rfl⟩ := kd
  rw [hC] at hmg; cases hmg
  have fa : Ft σ H ρ i a := (f2 a).1 ((f1 a).2 (.inl rfl))
  have len : fs.length = ts.length := by have := congrArg List.length r.keys; simpa [kidsO] using this
  have ne : ∀ {q}, ft H u y q → q ≠ a := fun {q} hq z => (n q hq).2.2 i (by rw [z]; exact fa)
  have own1 := ow.keep (F1 := F) (H1 := upd H a (.ins C dx (putF fld y fs))) (Same.refl F) fun q o hq ho => by rw [upd_ne (ne hq)]; exact ho
  have dl : ∀ q, ftL H ts (kidsO (.ins C dx fs)) q → q ≠ a := fun q hq z => by
    subst z
    exact r.self q hq rfl
  obtain ⟨r1, r2⟩ := OwL.store (f := fld) (H' := upd H a (.ins C dx (putF fld y fs))) (Same.refl F) own1.1 r (fun q o hq ho => by rw [upd_ne (dl q hq)]; exact ho) (fun z => ne ((own1.2 a).1 z) rfl) (fun q hq z => (n q ((own1.2 q).1 hq)).2.2 i ((f2 q).1 ((f1 q).2 (.inr z))))
  refine ⟨a, dx, fs, e, ha, by omega, ?_⟩
  have stb : Stb H (upd H a (.ins C dx (putF fld y fs))) := fun q z ⟨C2, dx2, fs2, h, l⟩ => by
    by_cases qa : q = a
    · subst qa
      rw [ha] at h; cases h
      refine ⟨C, dx, putF fld y fs, upd_same, ?_⟩
      rw [lookup_putF]
      by_cases ef : ("pending" : Str) = fld
      · exfalso
        have : (lkT (.f "pending") ts).isSome = false := by
          cases q : (lkT (.f "pending") ts).isSome with
          | false => rfl
          | true => rw [q, decide_eq_true ef.symm] at h3; cases h3
        rw [lk_pend r this] at l; cases l
      · rw [if_neg ef]; exact l
    · exact ⟨C2, dx2, fs2, by rw [upd_ne qa]; exact h, l⟩
  refine R.renode (S := fun q => q = a) hs hm e (fun q z => by subst z; exact fa) ⟨Same.refl F, fun q o nq ho => by rw [upd_ne nq]; exact ho, fun q o ho => ?_, fun q h nq => absurd nq h, fun q z => ⟨.ins C dx (putF fld y fs), by subst z; exact upd_same, trivial⟩, stb⟩ upd_same ⟨C, dx, _, hC, rfl⟩ r1 fun q hq => ?_
  · have nq : q ≠ a := fun z => by rw [z, nF] at ho; cases ho
    rcases R.up q o ho with z | ⟨d, od, z⟩
    · exact .inl (by rw [upd_ne nq]; exact z)
    · exact .inr ⟨d, od, by rw [upd_ne nq]; exact z⟩
  · rcases r2 q hq with z | z
    · exact .inl ((f2 q).1 ((f1 q).2 (.inr z)))
    · obtain ⟨z1, z2, z3⟩ := n q ((own1.2 q).1 z)
      exact .inr ⟨z2, z1, z3⟩
theorem lift_attr {cn fld : Str} {i : Nat} {C : Addr} (hC : mg cn = some (.ref C)) (cl : Cls K C) (na : NoAttr K C fld) (D : Ends) (σ : L2.St) (H : Hp) (h : liftS c wx (S.attr cn fld i me) D σ H) : sFld K (tVar i) (liftE c wx me) fld D σ H := by
  obtain ⟨F, ρ, R, p⟩ := h
  refine ⟨F, ρ, R, p.bnd.im fun w ρ1 p y F1 H1 s1 R1 r1 => ?_⟩
  cases e : prW w ρ1 with
  | bad => rw [e] at p; exact p.elim
  | ex _ _ _ => exact absurd e prW_ne
  | ok u ρ2 =>
    rw [e] at p
    obtain ⟨F2, s2, R2, ow, n⟩ := prW_ok R1 r1 e
    have p : Pst c wx F σ (obF cn (fun m ts => if attOk m fld ts = true then Z.ok Sig.nx (ρ2.set i (.ob m (.n (.ins cn) (stT (.f fld) u ts)))) else .bad) ρ2[i]?) _ := p
    cases hs : ρ2[i]? with
    | none => rw [hs] at p; exact p.elim
    | some s =>
      rw [hs] at p
      unfold obF at p
      split at p
      rotate_left
      · exact p.elim
      rename_i m c' ts heq
      cases heq
      by_cases ec : c' = cn
      rotate_left
      · rw [if_neg ec] at p; exact p.elim
      rw [if_pos ec] at p
      subst ec
      dsimp only at p
      by_cases ok : attOk m fld ts = true
      rotate_left
      · rw [if_neg ok] at p; exact p.elim
      rw [if_pos ok] at p
      obtain ⟨a, dx, fs, ea, ha, lt, R3⟩ := attr_ok R2 hC hs ok ow n
      exact ⟨_, ea, a, C, dx, fs, rfl, ha, cl, na, lt, p σ F2 _ (s1.trans s2) R3⟩
theorem pd_attr {cn fld : Str} {i : Nat} {C : Addr} (hC : mg cn = some (.ref C)) (cl : Cls K C) (na : NoAttr K C fld) (h : PS X st (sFld K (tVar i) (liftE c wx me) fld)) : PS X st (liftS c wx (S.attr cn fld i me)) := psI h (lift_attr hC cl na)
theorem lift_attrA {cn fld : Str} {i : Nat} {C : Addr} {r : R2} {f : D → D → Option W} (hf : OpD2 c.K c.mg r f) (hC : mg cn = some (.ref C)) (cl : Cls K C) (na : NoAttr K C fld) (D : Ends) (σ : L2.St) (H : Hp) (h : liftS c wx (S.attrA cn fld i f me) D σ H) : sFldAug K (tVar i) (liftE c wx me) r fld D σ H := by
  obtain ⟨F, ρ, R, p⟩ := h
  dsimp only [S.attrA] at p
  cases hs : ρ[i]? with
  | none => rw [hs] at p; exact p.elim
  | some s =>
    rw [hs] at p
    unfold obF at p
    split at p
    rotate_left
    · exact p.elim
    rename_i m c' ts heq
    cases heq
    by_cases ec : c' = cn
    rotate_left
    · rw [if_neg ec] at p; exact p.elim
    rw [if_pos ec] at p
    subst ec
    dsimp only at p
    cases el : lkT (.f fld) ts with
    | none => rw [el] at p; exact p.elim
    | some t0 =>
      rw [el] at p
      cases t0 with
      | fz d0 =>
        dsimp only [ataS] at p
        obtain ⟨a, o, e, ha, kd, rr, nF, nn, f1, f2, w⟩ := R.node hs
        obtain ⟨C', dx, fs, hmg, rfl⟩ := kd
        rw [hC] at hmg; cases hmg
        obtain ⟨v1, e1, ow1, _, _⟩ := rr.focus el
        cases ow1 with
        | fz r0 =>
          refine ⟨_, e, a, C, dx, fs, v1, rfl, ha, cl, na, lk_putV e1, F, ρ, R, p.bnd.im fun w ρ1 p y F1 H1 s1 R1 r1 => ?_⟩
          obtain ⟨F1', s1', R1', r1'⟩ := r1.toSt R1
          cases ek : pk w.st ρ1 with
          | none => rw [ek] at p; exact p.elim
          | some d1 =>
            rw [ek] at p
            refine hf F1' H1 v1 y d0 d1 _ R1'.up (.inl (r0.up (s1.trans s1'))) (R1'.pk r1' (by cases w <;> rfl) ek) (R1'.res (wx := wx) (Pst.up (s1.trans s1') (Pst.bnd p) fun w ρ2 k x F' H' s' R' r' => ?_))
            cases e3 : prW w ρ2 with
            | bad => rw [e3] at k; exact k.elim
            | ex _ _ _ => exact absurd e3 prW_ne
            | ok u ρ3 =>
              rw [e3] at k
              obtain ⟨F3, s3, R3, ow, n⟩ := prW_ok R' r' e3
              have k : Pst c wx F σ (obF c' (fun m ts => if attOk m fld ts = true then Z.ok Sig.nx (ρ3.set i (.ob m (.n (.ins c') (stT (.f fld) u ts)))) else .bad) ρ3[i]?) _ := k
              cases hs3 : ρ3[i]? with
              | none => rw [hs3] at k; exact k.elim
              | some s =>
                rw [hs3] at k
                unfold obF at k
                split at k
                rotate_left
                · exact k.elim
                rename_i m3 c3 ts3 heq3
                cases heq3
                by_cases ec3 : c3 = c'
                rotate_left
                · rw [if_neg ec3] at k; exact k.elim
                rw [if_pos ec3] at k
                subst ec3
                dsimp only at k
                by_cases ok : attOk m3 fld ts3 = true
                rotate_left
                · rw [if_neg ok] at k; exact k.elim
                rw [if_pos ok] at k
                obtain ⟨a3, dx3, fs3, ea, ha3, lt, R4⟩ := attr_ok R3 hC hs3 ok ow n
                rw [e] at ea; cases ea
                exact ⟨dx3, fs3, ha3, lt, k σ F3 _ (((s1.trans s1').trans s').trans s3) R4⟩
      | _ => exact p.elim
theorem pd_attrA {cn fld : Str} {i : Nat} {C : Addr} {r : R2} {f : D → D → Option W} (hf : OpD2 c.K c.mg r f) (hC : mg cn = some (.ref C)) (cl : Cls K C) (na : NoAttr K C fld) (h : PS X st (sFldAug K (tVar i) (liftE c wx me) r fld)) : PS X st (liftS c wx (S.attrA cn fld i f me)) := psI h (lift_attrA hf hC cl na)
end
end Dx

namespace Dx
open PySem PySem.Spec PyProof.Rows L2 Hx
/-! ## dicts -/
def kyK : D → Option Key
  | .int i => some (.inl i)
  | .str s => some (.inr s)
  | _ => none
def kysT : List D → Option (List Key)
  | [] => some []
  | d :: ds => match kyK d, kysT ds with
    | some k, some ks => some (k :: ks)
    | _, _ => none
/-- a value as a key -/
def dky : D → Option Ky
  | .int i => some (.k (.inl i))
  | .str s => some (.k (.inr s))
  | .tup ds => (kysT ds).map .t
  | _ => none
def lkD (k : Ky) : List (D × D) → Option D
  | [] => none
  | p :: r => if dky p.1 = some k then some p.2 else lkD k r
def putD (k : Ky) (kd v : D) (es : List (D × D)) : List (D × D) := if (lkD k es).isSome = true then es.map fun p => if dky p.1 = some k then (p.1, v) else p else es ++ [(kd, v)]
/-- a key that fits -/
def kyB : Bool → D → Option Ky
  | false, .int i => some (.k (.inl i))
  | false, .str s => some (.k (.inr s))
  | true, .tup ds => (kysT ds).map .t
  | _, _ => none
def dget : D → D → Option (Option D)
  | .dct b es, k => (kyB b k).map fun y => lkD y es
  | _, _ => none
section
variable {K : PySem.W.Frag} {mg : Str → Option Value} {F F' H H' : Hp} {x y : V}
theorem dky_kD (k : Key) : dky (kD k) = some (.k k) := by cases k <;> rfl
theorem kyK_kD (k : Key) : kyK (kD k) = some k := by cases k <;> rfl
theorem kysT_map : ∀ ks : List Key, kysT (ks.map kD) = some ks
  | [] => rfl
  | k :: ks => by rw [List.map_cons, kysT, kyK_kD, kysT_map ks]
theorem dky_tup (ks : List Key) : dky (.tup (ks.map kD)) = some (.t ks) := by rw [dky, kysT_map]; rfl
theorem kyK_rd {v : V} {d : D} {k : Key} (r : Rd K mg F v d) (e : kyK d = some k) : v = kV k ∧ d = kD k := by
  cases d with
  | int i => cases e; cases r; exact ⟨rfl, rfl⟩
  | str s => cases e; cases r; exact ⟨rfl, rfl⟩
  | _ => cases e
theorem kysT_rd : ∀ {vs : List V} {ds : List D} {ks : List Key}, RdL K mg F vs ds → kysT ds = some ks → vs = ks.map kV ∧ ds = ks.map kD
  | _, [], _, .nil, e => by cases e; exact ⟨rfl, rfl⟩
  | _, d :: ds, _, .cons h r, e => by
    rw [kysT] at e
    split at e
    · rename_i k ks e1 e2
      cases e
      obtain ⟨rfl, rfl⟩ := kyK_rd h e1
      obtain ⟨rfl, rfl⟩ := kysT_rd r e2
      exact ⟨rfl, rfl⟩
    · cases e
def RdO (K : PySem.W.Frag) (mg : Str → Option Value) (F : Hp) : Option V → Option D → Prop
  | none, none => True
  | some v, some d => Rd K mg F v d
  | _, _ => False
theorem lk_K {kvs : List (Key × V)} {es : List (D × D)} (r : RdK K mg F kvs es) (k : Key) : RdO K mg F (valV kvs k) (lkD (.k k) es) := by
  induction kvs generalizing es with
  | nil => cases r; trivial
  | cons p kvs ih =>
    cases r with
    | @cons k0 v _ d ds h r =>
      rw [lkD, dky_kD]
      by_cases e : k0 = k
      · rw [valV_pos e, if_pos (by rw [e])]; exact h
      · rw [valV_neg e, if_neg (fun z => e (Ky.k.inj (Option.some.inj z)))]; exact ih r
theorem lk_T {kvs : List (List Key × V)} {es : List (D × D)} (r : RdT K mg F kvs es) (k : List Key) : RdO K mg F (valV kvs k) (lkD (.t k) es) := by
  induction kvs generalizing es with
  | nil => cases r; trivial
  | cons p kvs ih =>
    cases r with
    | @cons k0 v _ d ds h r =>
      rw [lkD, dky_tup]
      by_cases e : k0 = k
      · rw [valV_pos e, if_pos (by rw [e])]; exact h
      · rw [valV_neg e, if_neg (fun z => e (Ky.t.inj (Option.some.inj z)))]; exact ih r
theorem RdO.isSome {o : Option V} {d : Option D} (r : RdO K mg F o d) : o.isSome = d.isSome := by
  cases o <;> cases d <;> first | rfl | exact r.elim
/-- what kyB says of the key -/
theorem kyB_rd {b : Bool} {kd : D} {k : Ky} (u : Up F H) (hy : Pk K mg F H y kd) (e : kyB b kd = some k) :
    (b = false ∧ ∃ q, k = .k q ∧ y = kV q ∧ kd = kD q) ∨ (b = true ∧ ∃ ks a, k = .t ks ∧ y = .ref a ∧ H a = some (.tup (ks.map kV)) ∧ kd = .tup (ks.map kD)) := by
  cases b with
  | false =>
    cases kd with
    | int i => cases e; exact .inl ⟨rfl, .inl i, rfl, hy.int, rfl⟩
    | str s => cases e; exact .inl ⟨rfl, .inr s, rfl, hy.str, rfl⟩
    | _ => cases e
  | true =>
    cases kd with
    | tup ds =>
      rw [kyB] at e
      cases q : kysT ds with
      | none => rw [q] at e; cases e
      | some ks =>
        rw [q] at e
        cases e
        obtain ⟨a, vs, rfl, ha, r⟩ := hy.tup u
        obtain ⟨rfl, rfl⟩ := kysT_rd r q
        exact .inr ⟨rfl, ks, a, rfl, rfl, ha, rfl⟩
    | _ => cases e
theorem dget_ok {d kd : D} {o : Option D} (u : Up F H) (hx : Pk K mg F H x d) (hy : Pk K mg F H y kd) (e : dget d kd = some o) : ∃ a ov, x = .ref a ∧ DGet H a y ov ∧ RdO K mg F ov o := by
  cases d with
  | dct b es =>
    obtain ⟨a, rfl, h⟩ := hx.dct u
    rw [dget] at e
    cases ek : kyB b kd with
    | none => rw [ek] at e; cases e
    | some k =>
      rw [ek] at e
      cases e
      rcases kyB_rd u hy ek with ⟨rfl, q, rfl, rfl, rfl⟩ | ⟨rfl, ks, p, rfl, rfl, hp, rfl⟩
      · rcases h with ⟨_, kvs, h, r⟩ | ⟨z, _⟩
        · exact ⟨a, _, rfl, .inl ⟨kvs, q, h, rfl, rfl⟩, lk_K r q⟩
        · cases z
      · rcases h with ⟨z, _⟩ | ⟨_, kvs, h, r⟩
        · cases z
        · exact ⟨a, _, rfl, .inr ⟨kvs, ks, p, h, rfl, hp, rfl⟩, lk_T r ks⟩
  | _ => cases e
theorem Pk.isD {b : Bool} {es : List (D × D)} (u : Up F H) (hx : Pk K mg F H x (.dct b es)) : ∃ a, x = .ref a ∧ IsD H a := by
  obtain ⟨a, e, h⟩ := hx.dct u
  rcases h with ⟨_, kvs, h, _⟩ | ⟨_, kvs, h, _⟩
  · exact ⟨a, e, .inl ⟨kvs, h⟩⟩
  · exact ⟨a, e, .inr ⟨kvs, h⟩⟩
/-! k in d, d[k] -/
def rDIn : R2 := fun y x H Q => ∃ a o, x = .ref a ∧ DGet H a y o ∧ Q (.bl o.isSome) H
def rDNi : R2 := fun y x H Q => ∃ a o, x = .ref a ∧ DGet H a y o ∧ Q (.bl (!o.isSome)) H
def rDIx : R2 := fun x y H Q => ∃ a v, x = .ref a ∧ DGet H a y (some v) ∧ Q v H
theorem op_din {X : Cx} (hu : X.A.units + 64 < cLine) : OpR X (compareOp .In) rDIn := by
  intro pins s σ H x y v u Q I rx ry h
  obtain ⟨a, o, rfl, g, q⟩ := h
  cases ry
  exact d_in (by omega) I g rx fun s' I' => ⟨.bl _, H, I', rfl, q⟩
theorem op_dni {X : Cx} (hu : X.A.units + 64 < cLine) : OpR X (compareOp .NotIn) rDNi := by
  intro pins s σ H x y v u Q I rx ry h
  obtain ⟨a, o, rfl, g, q⟩ := h
  cases ry
  exact d_notIn (by omega) I g rx fun s' I' => ⟨.bl _, H, I', rfl, q⟩
namespace O
def dinR : Option (Option D) → Option W
  | some o => wb o.isSome
  | none => none
def dniR : Option (Option D) → Option W
  | some o => wb (!o.isSome)
  | none => none
def dixR : Option (Option D) → Option W
  | some (some d) => some (.t d)
  | _ => none
@[simp] def din (k d : D) : Option W := dinR (dget d k)
@[simp] def dni (k d : D) : Option W := dniR (dget d k)
@[simp] def dix (d k : D) : Option W := dixR (dget d k)
end O
theorem d_din : OpD2 K mg rDIn O.din := by
  intro F H x y d e Q u hx hy q
  unfold O.din at q
  cases h : dget e d with
  | none => rw [h] at q; exact q.elim
  | some o =>
    rw [h] at q
    obtain ⟨a, ov, rfl, g, ro⟩ := dget_ok u hy hx h
    refine ⟨a, ov, rfl, g, ?_⟩
    rw [ro.isSome]
    exact q.sc u fun _ => .bl _
theorem d_dni : OpD2 K mg rDNi O.dni := by
  intro F H x y d e Q u hx hy q
  unfold O.dni at q
  cases h : dget e d with
  | none => rw [h] at q; exact q.elim
  | some o =>
    rw [h] at q
    obtain ⟨a, ov, rfl, g, ro⟩ := dget_ok u hy hx h
    refine ⟨a, ov, rfl, g, ?_⟩
    rw [ro.isSome]
    exact q.sc u fun _ => .bl _
theorem d_dix : OpD2 K mg rDIx O.dix := by
  intro F H x y d e Q u hx hy q
  unfold O.dix at q
  cases h : dget d e with
  | none => rw [h] at q; exact q.elim
  | some o =>
    rw [h] at q
    cases o with
    | none => exact q.elim
    | some dv =>
      obtain ⟨a, ov, rfl, g, ro⟩ := dget_ok u hx hy h
      cases ov with
      | none => exact ro.elim
      | some v => exact ⟨a, v, rfl, g, q.rd u ro⟩
end
/-! d.get(k), d.get(k, x) -/
def isDc : Option D → Bool
  | some (.dct _ _) => true
  | _ => false
def dgR (x : D) (ρ : Env) : Option (Option D) → Z W
  | some (some v) => .ok (.t v) ρ
  | some none => .ok (.t x) ρ
  | none => .bad
def dgK : Option D → Option D → Option D → Env → Z W
  | some d, some k, some x, ρ => if x.im = true then dgR x ρ (dget d k) else .bad
  | _, _, _, _ => .bad
namespace E
@[simp] def dg1 (mo mk : EM) (ρ : Env) : Z W := (mo ρ).bind fun w1 ρ1 => if isDc (pk w1.st ρ1) = true then (mk ρ1).bind fun w2 ρ2 => dgK (pk w1.st ρ2) (pk w2.st ρ2) (some .non) ρ2 else .bad
@[simp] def dg2 (mo mk mx : EM) (ρ : Env) : Z W := (mo ρ).bind fun w1 ρ1 => if isDc (pk w1.st ρ1) = true then (mk ρ1).bind fun w2 ρ2 => (mx ρ2).bind fun w3 ρ3 => dgK (pk w1.st ρ3) (pk w2.st ρ3) (pk w3.st ρ3) ρ3 else .bad
end E
section
variable {K : PySem.W.Frag} {mg : Str → Option Value} {c : Ctx K mg} {wx : WX} {F F' H H' : Hp} {σ : L2.St} {ρ : Env} {X : Cx} {e : Expr} {st : Stmt} {mo mk mx me : EM}
theorem Pk.rd_im {x : V} {d : D} (h : Pk K mg F H x d) (i : d.im = true) : Rd K mg F x d := by
  rcases h with h | ⟨_, _, _, _, rfl, _⟩ | ⟨_, _, _, _, rfl, _⟩
  · exact h
  · simp [D.im] at i
  · simp [D.im] at i
theorem dgK_ok {d k z : Option D} {Q : VK} {x y w : V} {F0 : Hp} (s0 : Same F0 F) (R : Rs c F σ H ρ) (h1 : ∀ v, d = some v → Pk K mg F H x v) (h2 : ∀ v, k = some v → Pk K mg F H y v) (h3 : ∀ v, z = some v → Pk K mg F H w v) (p : Pst c wx F0 σ (dgK d k z ρ) fun w ρ' => ∀ x F' H', Same F0 F' → Rs c F' σ H' ρ' → RdW c F' σ H' ρ' x w → Q x H') :
    ∃ a o, x = .ref a ∧ DGet H a y o ∧ Q (o.getD w) H := by
  cases d with
  | none => exact p.elim
  | some d =>
    cases k with
    | none => exact p.elim
    | some k =>
      cases z with
      | none => exact p.elim
      | some z =>
        dsimp only [dgK] at p
        by_cases i : z.im = true
        · rw [if_pos i] at p
          cases e : dget d k with
          | none => rw [e] at p; exact p.elim
          | some o =>
            rw [e] at p
            obtain ⟨a, ov, rfl, g, ro⟩ := dget_ok R.up (h1 d rfl) (h2 k rfl) e
            refine ⟨a, ov, rfl, g, ?_⟩
            cases o with
            | none =>
              cases ov with
              | none => exact p w F H s0 R ((h3 z rfl).rd_im i)
              | some _ => exact ro.elim
            | some dv =>
              cases ov with
              | none => exact ro.elim
              | some v => exact p v F H s0 R ro
        · rw [if_neg i] at p; exact p.elim
theorem isDc_ok {d : Option D} (h : isDc d = true) : ∃ b es, d = some (.dct b es) := by
  cases d with
  | none => cases h
  | some d => cases d with
    | dct b es => exact ⟨b, es, rfl⟩
    | _ => cases h
theorem lift_dg2 (σ : L2.St) (H : Hp) (Q : VK) (h : liftE c wx (E.dg2 mo mk mx) σ H Q) : tDGet2 (liftE c wx mo) (liftE c wx mk) (liftE c wx mx) σ H Q := by
  obtain ⟨F, ρ, R, p⟩ := h
  refine ⟨F, ρ, R, p.bnd.im fun w1 ρ1 p x F1 H1 s1 R1 r1 => ?_⟩
  obtain ⟨F1', s1', R1', r1'⟩ := r1.toSt R1
  by_cases i : isDc (pk w1.st ρ1) = true
  rotate_left
  · rw [if_neg i] at p; exact p.elim
  rw [if_pos i] at p
  obtain ⟨b, es, e1⟩ := isDc_ok i
  obtain ⟨a, rfl, hd⟩ := (R1'.pk r1' (by cases w1 <;> rfl) e1).isD R1'.up
  refine ⟨a, rfl, hd, F1', ρ1, R1', p.bnd.up (s1.trans s1') fun w2 ρ2 p y F2 H2 s2 R2 r2 => ?_⟩
  obtain ⟨F2', s2', R2', r2'⟩ := r2.toSt R2
  refine ⟨F2', ρ2, R2', p.bnd.up (((s1.trans s1').trans s2).trans s2') fun w3 ρ3 p z F3 H3 s3 R3 r3 => ?_⟩
  obtain ⟨F3', s3', R3', r3'⟩ := r3.toSt R3
  have k1 : RdW c F3' σ H3 ρ3 (.ref a) w1.st := r1'.st_up (((s2.trans s2').trans s3).trans s3') (by cases w1 <;> rfl)
  have k2 : RdW c F3' σ H3 ρ3 y w2.st := r2'.st_up (s3.trans s3') (by cases w2 <;> rfl)
  obtain ⟨a', o, ea, g, q⟩ := dgK_ok (K := K) (mg := mg) (((((s1.trans s1').trans s2).trans s2').trans s3).trans s3') R3' (fun v ev => R3'.pk k1 (by cases w1 <;> rfl) ev) (fun v ev => R3'.pk k2 (by cases w2 <;> rfl) ev) (fun v ev => R3'.pk r3' (by cases w3 <;> rfl) ev) p
  cases ea
  exact ⟨o, g, q⟩
theorem lift_dg1 (σ : L2.St) (H : Hp) (Q : VK) (h : liftE c wx (E.dg1 mo mk) σ H Q) : tDGet1 (liftE c wx mo) (liftE c wx mk) σ H Q := by
  obtain ⟨F, ρ, R, p⟩ := h
  refine ⟨F, ρ, R, p.bnd.im fun w1 ρ1 p x F1 H1 s1 R1 r1 => ?_⟩
  obtain ⟨F1', s1', R1', r1'⟩ := r1.toSt R1
  by_cases i : isDc (pk w1.st ρ1) = true
  rotate_left
  · rw [if_neg i] at p; exact p.elim
  rw [if_pos i] at p
  obtain ⟨b, es, e1⟩ := isDc_ok i
  obtain ⟨a, rfl, hd⟩ := (R1'.pk r1' (by cases w1 <;> rfl) e1).isD R1'.up
  refine ⟨a, rfl, hd, F1', ρ1, R1', p.bnd.up (s1.trans s1') fun w2 ρ2 p y F2 H2 s2 R2 r2 => ?_⟩
  obtain ⟨F2', s2', R2', r2'⟩ := r2.toSt R2
  have k1 : RdW c F2' σ H2 ρ2 (.ref a) w1.st := r1'.st_up (s2.trans s2') (by cases w1 <;> rfl)
  obtain ⟨a', o, ea, g, q⟩ := dgK_ok (K := K) (mg := mg) (w := .non) (((s1.trans s1').trans s2).trans s2') R2' (fun v ev => R2'.pk k1 (by cases w1 <;> rfl) ev) (fun v ev => R2'.pk r2' (by cases w2 <;> rfl) ev) (fun v ev => by cases ev; exact .inl .non) p
  cases ea
  exact ⟨o, g, q⟩
theorem pd_dg2 (h : PE X e (tDGet2 (liftE c wx mo) (liftE c wx mk) (liftE c wx mx))) : PE X e (liftE c wx (E.dg2 mo mk mx)) := pd_of h lift_dg2
theorem pd_dg1 (h : PE X e (tDGet1 (liftE c wx mo) (liftE c wx mk))) : PE X e (liftE c wx (E.dg1 mo mk)) := pd_of h lift_dg1
end
end Dx

namespace Dx
open PySem PySem.Spec PyProof.Rows L2 Hx
/-! ## d[k] = e -/
section
variable {K : PySem.W.Frag} {mg : Str → Option Value} {F F' H H' : Hp}
theorem put_K {kvs : List (Key × V)} {es : List (D × D)} {v : V} {d : D} (r : RdK K mg F kvs es) (rv : Rd K mg F v d) (k : Key) : RdK K mg F (putK kvs k v) (putD (.k k) (kD k) d es) := by
  have hs := (lk_K r k).isSome
  unfold putK putD
  rw [valV_any, hs]
  by_cases c : (lkD (.k k) es).isSome = true
  · rw [if_pos c, if_pos c]
    clear hs c
    induction kvs generalizing es with
    | nil => cases r; exact .nil
    | cons p kvs ih =>
      cases r with
      | @cons k0 v0 _ d0 ds h r =>
        rw [List.map_cons, List.map_cons, dky_kD]
        by_cases e : k0 = k
        · subst e; rw [if_pos rfl, if_pos rfl]; exact .cons rv (ih r)
        · rw [if_neg e, if_neg (fun z => e (Ky.k.inj (Option.some.inj z)))]; exact .cons h (ih r)
  · rw [if_neg c, if_neg c]
    clear hs c
    induction kvs generalizing es with
    | nil => cases r; exact .cons rv .nil
    | cons p kvs ih => cases r with | cons h r => exact .cons h (ih r)
theorem put_T {kvs : List (List Key × V)} {es : List (D × D)} {v : V} {d : D} (r : RdT K mg F kvs es) (rv : Rd K mg F v d) (k : List Key) : RdT K mg F (putK kvs k v) (putD (.t k) (.tup (k.map kD)) d es) := by
  have hs := (lk_T r k).isSome
  unfold putK putD
  rw [valV_any, hs]
  by_cases c : (lkD (.t k) es).isSome = true
  · rw [if_pos c, if_pos c]
    clear hs c
    induction kvs generalizing es with
    | nil => cases r; exact .nil
    | cons p kvs ih =>
      cases r with
      | @cons k0 v0 _ d0 ds h r =>
        rw [List.map_cons, List.map_cons, dky_tup]
        by_cases e : k0 = k
        · subst e; rw [if_pos rfl, if_pos rfl]; exact .cons rv (ih r)
        · rw [if_neg e, if_neg (fun z => e (Ky.t.inj (Option.some.inj z)))]; exact .cons h (ih r)
  · rw [if_neg c, if_neg c]
    clear hs c
    induction kvs generalizing es with
    | nil => cases r; exact .cons rv .nil
    | cons p kvs ih => cases r with | cons h r => exact .cons h (ih r)
theorem RdK.len' {kvs : List (Key × V)} {es : List (D × D)} (r : RdK K mg F kvs es) : kvs.length = es.length := by
  induction kvs generalizing es with
  | nil => cases r; rfl
  | cons p kvs ih => cases r with | cons h r => rw [List.length_cons, List.length_cons, ih r]
theorem RdT.len' {kvs : List (List Key × V)} {es : List (D × D)} (r : RdT K mg F kvs es) : kvs.length = es.length := by
  induction kvs generalizing es with
  | nil => cases r; rfl
  | cons p kvs ih => cases r with | cons h r => rw [List.length_cons, List.length_cons, ih r]
/-- a dict's cell, written -/
theorem dput_ok {q : Addr} {b : Bool} {es : List (D × D)} {kd d : D} {k : Ky} {y v : V} (u : Up F H) (dc : DcAt K mg F H q b es) (hy : Pk K mg F H y kd) (e : kyB b kd = some k) (rv : Rd K mg F v d) (l : es.length < 1000000) :
    ∃ o o', H q = some o ∧ notTup o ∧ (∀ C dx fs, o ≠ .ins C dx fs) ∧ notTup o' ∧ DPut H q y v (upd H q o') ∧ DcAt K mg F (upd H q o') q b (putD k kd d es) := by
  have z : (1000000 : Nat) < sizeLine := by rw [sizeLine_eq]; decide
  rcases kyB_rd u hy e with ⟨rfl, ky, rfl, rfl, rfl⟩ | ⟨rfl, ks, p, rfl, rfl, hp, rfl⟩
  · rcases dc with ⟨_, kvs, h, r⟩ | ⟨z, _⟩
    · exact ⟨_, .dK (putK kvs ky v), h, trivial, (fun _ _ _ => nofun), trivial, .inl ⟨kvs, ky, h, rfl, by rw [r.len']; omega, rfl⟩, .inl ⟨rfl, _, upd_same, put_K r rv ky⟩⟩
    · cases z
  · rcases dc with ⟨z, _⟩ | ⟨_, kvs, h, r⟩
    · cases z
    · exact ⟨_, .dT (putK kvs ks v), h, trivial, (fun _ _ _ => nofun), trivial, .inr ⟨kvs, ks, p, h, rfl, hp, by rw [r.len']; omega, rfl⟩, .inr ⟨rfl, _, upd_same, put_T r rv ks⟩⟩
end
def rSetD : TSet := fun o i v H Q => ∃ a H', o = .ref a ∧ DPut H a i v H' ∧ Q H'
theorem set_dict {X : Cx} (hu : X.A.units + 64 < cLine) : PSet X rSetD := by
  intro pins s σ H o i v ov iv u Q I ro ri rv h
  obtain ⟨a, H', rfl, g, q⟩ := h
  cases ro
  exact d_setItem (by omega) I g ri rv fun s' I' => ⟨H', I', q⟩
def isOd : Option Slot → Bool
  | some (.od _ _) => true
  | _ => false
def dputK (i : Nat) (d : D) (b : Bool) (es : List (D × D)) (k : D) (ρ : Env) : Option Ky → Z Sig
  | some y => if es.length < 1000000 then .ok .nx (ρ.set i (.od b (putD y k d es))) else .bad
  | none => .bad
def dputR (i : Nat) (d : D) : Option D → Option Slot → Env → Z Sig
  | some k, some (.od b es), ρ => dputK i d b es k ρ (kyB b k)
  | _, _, _ => .bad
/-- x[k] = e, x an own dict -/
@[simp] def S.dput (i : Nat) (ik e : EM) (ρ : Env) : Z Sig := (e ρ).bind fun w ρ1 => (fz w ρ1).bind fun d ρ2 => if isOd ρ2[i]? = true then (ik ρ2).bind fun wk ρ3 => dputR i d (pk wk.st ρ3) ρ3[i]? ρ3 else .bad
section
variable {K : PySem.W.Frag} {mg : Str → Option Value} {c : Ctx K mg} {wx : WX} {F F' H H' : Hp} {σ : L2.St} {ρ : Env} {X : Cx} {e : Expr} {st : Stmt} {mk me : EM}
theorem Rs.putOd {i : Nat} {b : Bool} {es es' : List (D × D)} {q : Addr} {o o' : HO} (R : Rs c F σ H ρ) (hi : ρ[i]? = some (.od b es)) (hp : σ[i]? = some (some (.ref q))) (ho : H q = some o) (ni : ∀ C dx fs, o ≠ .ins C dx fs) (t : notTup o) (t' : notTup o') (dc : DcAt K mg F (upd H q o') q b es') :
    Rs c F σ (upd H q o') (ρ.set i (.od b es')) := by
  obtain ⟨q', e, n, w, dc0⟩ := R.sl i _ hi
  rw [hp] at e; cases e
  have a : AdvI (fun z => z = q) F H F (upd H q o') := .put R.up n ho ni t'
  refine R.gen i (R.toHk.advI a fun z e => by subst e; exact ⟨n, .inl w.1, w.2⟩) (by rw [List.length_set]; exact R.len) (Same.refl F) (fun j s ne hj => ?_) fun s hj => ?_
  · have hj := (set_ne ne).1 hj
    exact ⟨hj, rfl, fun z ob hq hz tz nf => ⟨a.hh z ob (fun y => ne (R.dj j i z ⟨s, hj, hq⟩ ⟨_, hi, by subst y; exact hp⟩)) hz, nf⟩⟩
  · obtain ⟨rfl, _⟩ := set_at hj
    exact ⟨⟨q, hp, n, w, dc⟩, fun z hq j ne hf => ne (R.dj j i z hf ⟨_, hi, hq⟩)⟩
theorem lift_dput {i : Nat} (Y : Ends) (σ : L2.St) (H : Hp) (h : liftS c wx (S.dput i mk me) Y σ H) : tAsg (liftE c wx me) (gSub (tVar i) (liftE c wx mk) rSetD) Y σ H := by
  obtain ⟨F, ρ, R, p⟩ := h
  refine ⟨F, ρ, R, p.bnd.im fun w ρ1 p x F1 H1 s1 R1 r1 => ?_⟩
  cases e : fz w ρ1 with
  | bad => rw [e] at p; exact p.elim
  | ex _ _ _ => exact absurd e fz_ne
  | ok d ρ2 =>
    rw [e] at p
    obtain ⟨F2, s2, R2, r2⟩ := fz_ok R1 r1 e
    dsimp only [Z.bind] at p
    by_cases oi : isOd ρ2[i]? = true
    rotate_left
    · rw [if_neg oi] at p; exact p.elim
    rw [if_pos oi] at p
    cases hi : ρ2[i]? with
    | none => rw [hi] at oi; cases oi
    | some s0 =>
      rw [hi] at oi
      cases s0 with
      | od b0 es0 =>
        obtain ⟨q, e1, nq, _, _⟩ := R2.sl i _ hi
        refine ⟨_, e1, F2, ρ2, R2, Pst.up (s1.trans s2) (Pst.bnd p) fun wk ρ3 p y F3 H3 s3 R3 r3 => ?_⟩
        obtain ⟨F4, s4, R4, r4⟩ := r3.toSt R3
        cases ek : pk wk.st ρ3 with
        | none => rw [ek] at p; exact p.elim
        | some dk =>
          rw [ek] at p
          cases hi3 : ρ3[i]? with
          | none => rw [hi3] at p; exact p.elim
          | some sl3 =>
            rw [hi3] at p
            cases sl3 with
            | od b es =>
              dsimp only [dputR] at p
              cases eb : kyB b dk with
              | none => rw [eb] at p; exact p.elim
              | some ky =>
                rw [eb] at p
                dsimp only [dputK] at p
                by_cases l : es.length < 1000000
                · rw [if_pos l] at p
                  obtain ⟨q3, e3, nq3, w3, dc3⟩ := R4.sl i _ hi3
                  rw [e1] at e3; cases e3
                  obtain ⟨o, o', ho, t, ni, t', dp, dc'⟩ := dput_ok R4.up dc3 (R4.pk r4 (by cases wk <;> rfl) ek) eb (r2.up (s3.trans s4)) l
                  exact ⟨q, _, rfl, dp, p σ F4 _ (((s1.trans s2).trans s3).trans s4) (R4.putOd hi3 e1 ho ni t t' dc')⟩
                · rw [if_neg l] at p; exact p.elim
            | _ => exact p.elim
      | _ => cases oi
theorem pd_dput {i : Nat} (h : PS X st (tAsg (liftE c wx me) (gSub (tVar i) (liftE c wx mk) rSetD))) : PS X st (liftS c wx (S.dput i mk me)) := psI h lift_dput
end
end Dx

namespace Dx
open PySem PySem.Spec PyProof.Rows L2 Hx
/-! ## x.f[k] = e, x an own instance, the key quiet -/
def qeW : W → Env → Z D
  | .t d, ρ => .ok d ρ
  | _, _ => .bad
def qeR : Z W → Env → Z D
  | .ok w _, ρ => qeW w ρ
  | .ex _ _ _, _ => .bad
  | .bad, _ => .bad
/-- an expression that touches nothing -/
@[simp] def quE (m : EM) (ρ : Env) : Z D := qeR (m (vwE [] 0 ρ)) ρ
def isG : Option Tr → Bool
  | some (.g _ _) => true
  | _ => false
def fdpK (i : Nat) (m : Md) (cn fld : Str) (ts : List (Ky × Tr)) (d k : D) (b : Bool) (es : List (D × D)) (ρ : Env) : Option Ky → Z Sig
  | some y => if es.length < 1000000 then .ok .nx (ρ.set i (.ob m (.n (.ins cn) (stT (.f fld) (.g b (putD y k d es)) ts)))) else .bad
  | none => .bad
def fdpT (i : Nat) (m : Md) (cn fld : Str) (ts : List (Ky × Tr)) (d k : D) (ρ : Env) : Option Tr → Z Sig
  | some (.g b es) => fdpK i m cn fld ts d k b es ρ (kyB b k)
  | _ => .bad
@[simp] def S.fdput (cn fld : Str) (i : Nat) (ik e : EM) (ρ : Env) : Z Sig := (e ρ).bind fun w ρ1 => (fz w ρ1).bind fun d ρ2 => obF cn (fun m ts => if (mdW m && isG (lkT (.f fld) ts)) = true then (quE ik ρ2).bind fun k ρ3 => fdpT i m cn fld ts d k ρ3 (lkT (.f fld) ts) else .bad) ρ2[i]?
section
variable {K : PySem.W.Frag} {mg : Str → Option Value} {c : Ctx K mg} {wx : WX} {F F' H H' : Hp} {σ : L2.St} {ρ : Env} {X : Cx} {e : Expr} {st : Stmt} {mk me : EM}
theorem qe_go (R : Rs c F σ H ρ) {k : D → Env → Z Sig} {q : Sig → Env → Prop} {Q : VK} (p : Pst c wx F σ ((quE mk ρ).bind k) q) (go : ∀ x F' H' d, Adv F H F' H' → Rd K mg F' x d → Pst c wx F σ (k d ρ) q → Q x H') : liftE' K mg mk σ H Q := by
  refine ⟨_, _, _, vw_start [] R, ?_⟩
  dsimp only [quE] at p
  have nV : ∀ q, ¬ VwC [] σ H ρ q := fun q ⟨i, h, _⟩ => nomatch h
  cases e : mk (vwE [] 0 ρ) with
  | bad => rw [e] at p; exact p.elim
  | ex _ _ _ => rw [e] at p; exact p.elim
  | ok w ρ' =>
    rw [e] at p
    intro x F' H' s R' r'
    have a := R'.toHk.exit0
    have ad : Adv F H F' H' := ⟨fun q o h => a.ff q o (by rw [fzH_out (nV q)]; exact h), a.hh, a.fh, fun q h n => a.nw q h (by rw [fzH_out (nV q)]; exact n)⟩
    cases w with
    | t d => exact go x F' H' d ad r' p
    | _ => exact p.elim
theorem Rs.pokeG {i : Nat} {m : Md} {cn fld : Str} {ts : List (Ky × Tr)} {b : Bool} {es : List (D × D)} (R : Rs c F σ H ρ) (hs : ρ[i]? = some (.ob m (.n (.ins cn) ts))) (hm : mdW m = true) (lk : lkT (.f fld) ts = some (.g b es)) :
    ∃ a C dx fs q, σ[i]? = some (some (.ref a)) ∧ mg cn = some (.ref C) ∧ H a = some (.ins C dx fs) ∧ fs.lookup fld = some (.ref q) ∧ F q = none ∧ DcAt K mg F H q b es ∧ ∀ o o' es', H q = some o → (∀ C dx fs, o ≠ .ins C dx fs) → notTup o' → DcAt K mg F (upd H q o') q b es' → Rs c F σ (upd H q o') (ρ.set i (.ob m (.n (.ins cn) (stT (.f fld) (.g b es') ts)))) := by
  obtain ⟨a, o, e, ha, kd, r, nF, n, f1, f2, w⟩ := R.node hs
  obtain ⟨C, dx, fs, hmg, rfl⟩ := kd
  obtain ⟨v1, e1, ow, f3, na⟩ := r.focus lk
  cases ow with
  | @g q _ _ dc =>
    have fq : Ft σ H ρ i q := (f2 q).1 ((f1 q).2 (.inr (f3 q (by rw [ft]))))
    have nFq := (n q ((f2 q).2 fq)).1
    refine ⟨a, C, dx, fs, q, e, hmg, ha, lk_putV e1, nFq, dc, fun ob o' es' ho ni t' dc' => ?_⟩
    have aq : a ≠ q := fun z => na (by rw [ft, z])
    have go : ∀ z ob, ¬ ft H (.g b es) (.ref q) z → H z = some ob → upd H q o' z = some ob := fun z ob nb hb => by
      rw [upd_ne (fun y => nb (by rw [ft, y]))]; exact hb
    obtain ⟨r1, r2, _⟩ := OwL.poke (H' := upd H q o') (u := .g b es') (Same.refl F) go (.g dc') (fun z hb => by rw [ft] at hb ⊢; exact .inl hb) r lk e1 (by rw [ha]; exact nofun)
    refine R.renode (S := fun z => z = q) hs hm e (fun z y => by subst y; exact fq) (.put R.up nFq ho ni t') (by rw [upd_ne aq]; exact ha) ⟨C, dx, fs, hmg, rfl⟩ r1 fun z hz => ?_
    rcases r2 z hz with y | y
    · exact .inl ((f2 z).1 ((f1 z).2 (.inr y)))
    · refine .inr ⟨R.none0 y, R.up.free y, R.notOwn y⟩
theorem lift_fdput {cn fld : Str} {i : Nat} {C : Addr} (hC : mg cn = some (.ref C)) (cl : Cls K C) (na : NoAttr K C fld) (Y : Ends) (σ : L2.St) (H : Hp) (h : liftS c wx (S.fdput cn fld i mk me) Y σ H) : tAsg (liftE c wx me) (gSub (tFld K (tVar i) fld) (liftE' K mg mk) rSetD) Y σ H := by
  obtain ⟨F, ρ, R, p⟩ := h
  refine ⟨F, ρ, R, p.bnd.im fun w ρ1 p x F1 H1 s1 R1 r1 => ?_⟩
  cases e : fz w ρ1 with
  | bad => rw [e] at p; exact p.elim
  | ex _ _ _ => exact absurd e fz_ne
  | ok d ρ2 =>
    rw [e] at p
    obtain ⟨F2, s2, R2, r2⟩ := fz_ok R1 r1 e
    have p : Pst c wx F σ (obF cn (fun m ts => if (mdW m && isG (lkT (.f fld) ts)) = true then (quE mk ρ2).bind fun k ρ3 => fdpT i m cn fld ts d k ρ3 (lkT (.f fld) ts) else .bad) ρ2[i]?) _ := p
    cases hs : ρ2[i]? with
    | none => rw [hs] at p; exact p.elim
    | some s =>
      rw [hs] at p
      unfold obF at p
      split at p
      rotate_left
      · exact p.elim
      rename_i m c' ts heq
      cases heq
      by_cases ec : c' = cn
      rotate_left
      · rw [if_neg ec] at p; exact p.elim
      rw [if_pos ec] at p
      subst ec
      dsimp only at p
      by_cases ok : (mdW m && isG (lkT (.f fld) ts)) = true
      rotate_left
      · rw [if_neg ok] at p; exact p.elim
      rw [if_pos ok] at p
      obtain ⟨hm, hl⟩ := Bool.and_eq_true_iff.mp ok
      cases el : lkT (.f fld) ts with
      | none => rw [el] at hl; cases hl
      | some t1 =>
        rw [el] at hl p
        cases t1 with
        | g b es =>
          obtain ⟨a, C', dx, fs, q, ea, hmg, ha, lf, nq, dc, _⟩ := R2.pokeG hs hm el
          rw [hC] at hmg; cases hmg
          refine ⟨_, ea, a, C, dx, fs, .ref q, rfl, ha, cl, na, lf, qe_go R2 (Pst.up (s1.trans s2) p fun sg ρ9 k => SgP.up (s1.trans s2) k) fun y F3 H3 k ad ry p => ?_⟩
          have R3 := R2.adv ad
          obtain ⟨a2, C2, dx2, fs2, q2, e2, _, ha2, lf2, nq2, dc2, go⟩ := R3.pokeG hs hm el
          rw [ea] at e2; cases e2
          rw [ad.hh _ _ ha] at ha2; cases ha2
          rw [lf] at lf2; cases lf2
          dsimp only [fdpT] at p
          cases eb : kyB b k with
          | none => rw [eb] at p; exact p.elim
          | some ky =>
            rw [eb] at p
            dsimp only [fdpK] at p
            by_cases l : es.length < 1000000
            · rw [if_pos l] at p
              obtain ⟨o, o', ho, t, ni, t', dp, dc'⟩ := dput_ok R3.up dc2 (.inl ry) eb (r2.up ad.ff) l
              exact ⟨q, _, rfl, dp, p σ F3 _ ad.ff (go o o' _ ho ni t' dc')⟩
            · rw [if_neg l] at p; exact p.elim
        | _ => cases hl
theorem pd_fdput {cn fld : Str} {i : Nat} {C : Addr} (hC : mg cn = some (.ref C)) (cl : Cls K C) (na : NoAttr K C fld) (h : PS X st (tAsg (liftE c wx me) (gSub (tFld K (tVar i) fld) (liftE' K mg mk) rSetD))) : PS X st (liftS c wx (S.fdput cn fld i mk me)) := psI h (lift_fdput hC cl na)
end
end Dx

namespace Dx
open PySem PySem.Spec PyProof.Rows L2 Hx
/-! ## isinstance(x, C) for an own class -/
structure IsC (K : PySem.W.Frag) (C : Addr) : Prop where
  cl : Cls K C
  ha : PySem.W.findIn K (.ref C) "__class__" = some (some (.builtin "object.__class__"))
  hn : PySem.W.specialIn K (.builtin "object.__class__") "__get__" = some (some (.builtin "getset_descriptor.__get__"))
  tk : PySem.W.takesIn K (.builtin "object.__class__") = some true
  hm : PySem.W.mroIn K C (.type "object") = some true
  n1 : PySem.W.kitOne K (.type "NoneType") (.ref C) = some false
  n2 : PySem.W.kitOne K (.type "bool") (.ref C) = some false
  n3 : PySem.W.kitOne K (.type "int") (.ref C) = some false
  n4 : PySem.W.kitOne K (.type "str") (.ref C) = some false
  n5 : PySem.W.kitOne K (.type "list") (.ref C) = some false
  n6 : PySem.W.kitOne K (.type "tuple") (.ref C) = some false
  n7 : PySem.W.kitOne K (.type "dict") (.ref C) = some false
theorem IsC.no {K : PySem.W.Frag} {C : Addr} (h : IsC K C) (t : Ty) : PySem.W.kitOne K (.type t.nm) (.ref C) = some false := by
  cases t
  · exact h.n1
  · exact h.n2
  · exact h.n3
  · exact h.n4
  · exact h.n5
  · exact h.n6
  · exact h.n7
def O.isC (cn : Str) : D → Option W
  | .ins c _ => if c = cn then wb true else none
  | d => if d.tyc.isSome = true then wb false else none
theorem call_isiYc {X : Cx} {K : PySem.W.Frag} (hK : X.K = K) : CallR X (.builtin "isinstance") (rIsY K) := hK ▸ call_isiY
section
variable {K : PySem.W.Frag} {mg : Str → Option Value} {c : Ctx K mg} {wx : WX} {F F' H H' : Hp} {σ : L2.St} {ρ : Env} {X : Cx} {e : Expr} {ma mb mo me : EM} {maa mab : AM}
theorem kit_self {C : Addr} : PySem.W.kitOne K (.ref C) (.ref C) = some true := by
  unfold PySem.W.kitOne
  rw [if_pos (by rw [beq_iff_eq])]
theorem d_isC {cn : Str} {C : Addr} (hC : mg cn = some (.ref C)) (I : IsC K C) : OpD1 K mg (fun x H Q => rIsY K [x, .ref C] H Q) (O.isC cn) := by
  intro F H x d Q u hx q
  have other : ∀ t, d.tyc = some t → Res K mg F H (wb false) Q → rIsY K [x, .ref C] H Q := fun t ht q => ⟨x, .ref C, _, _, false, rfl, .own C, hx.tyX u ht, I.no t, q.sc u fun _ => .bl _⟩
  cases d with
  | ins c fs =>
    unfold O.isC at q
    dsimp only at q
    by_cases e : c = cn
    · rw [if_pos e] at q
      subst e
      rcases hx with h | ⟨_, _, _, _, e, _⟩ | ⟨_, _, _, _, e, _⟩
      · cases h with
        | @ins a C' dx _ fsV _ hm ha rf =>
          have hm : mg c = some (.ref C') := hm
          rw [hC] at hm; cases hm
          exact ⟨_, .ref C, .ref C, _, true, rfl, .own C, .inl (.base (.ins (u.ins ha) I.cl I.ha I.hn I.tk I.hm)), kit_self, q.sc u fun _ => .bl _⟩
      · cases e
      · cases e
    · rw [if_neg e] at q; exact q.elim
  | scr ds => exact other .lst rfl q
  | ty n => exact q.elim
  | cls n => exact q.elim
  | non => exact other .non rfl q
  | bl b => exact other .bl rfl q
  | int b => exact other .int rfl q
  | str b => exact other .str rfl q
  | lst b => exact other .lst rfl q
  | tup b => exact other .tup rfl q
  | dct b es => exact other .dct rfl q
theorem pd_isC {cn : Str} {C : Addr} (hC : mg cn = some (.ref C)) (I : IsC K C) (h : PE X e (tCB (rIsY K) (tCons (liftE c wx me) (tCons (tC (.ref C)) tNil)))) : PE X e (liftE c wx (E.op1 (O.isC cn) me)) := pd_of h (lift_op1 (d_isC hC I))
/-! ## trees without keywords -/
theorem liftE_mono {Q Q' : VK} (k : ∀ x H, Q x H → Q' x H) (h : liftE c wx me σ H Q) : liftE c wx me σ H Q' := by
  obtain ⟨F, ρ, R, p⟩ := h
  exact ⟨F, ρ, R, p.im fun w ρ' g x F' H' s R' r => k _ _ (g x F' H' s R' r)⟩
theorem liftA_mono {Q Q' : List V → Hp → Prop} (k : ∀ x H, Q x H → Q' x H) (h : liftA c wx maa σ H Q) : liftA c wx maa σ H Q' := by
  obtain ⟨F, ρ, R, p⟩ := h
  exact ⟨F, ρ, R, p.im fun w ρ' g x F' H' s R' r => k _ _ (g x F' H' s R' r)⟩
theorem liftA_nil {Q : List V → Hp → Prop} (h : liftA c wx A.nil σ H Q) : Q [] H := by
  obtain ⟨F, ρ, R, p⟩ := h
  exact p [] F H (Same.refl F) R .nil
theorem meth_nil {C : Addr} {m : Str} {sp : Sp} {gV : List V → List V → List V} {Q : VK} (h : tMethE C m sp gV wx (liftE c wx mo) (liftA c wx maa) (liftA c wx A.nil) σ H Q) : tMethE C m sp gV wx (liftE c wx mo) (liftA c wx maa) tNil σ H Q :=
  liftE_mono (fun x H1 ⟨a, dx, fs, e1, e2, e3, g⟩ => ⟨a, dx, fs, e1, e2, e3, liftA_mono (fun vs H2 g => liftA_nil g) g⟩) h
theorem meth_nil2 {C : Addr} {m : Str} {sp : Sp} {gV : List V → List V → List V} {Q : VK} (h : tMethE C m sp gV wx (liftE c wx mo) (liftA c wx A.nil) (liftA c wx A.nil) σ H Q) : tMethE C m sp gV wx (liftE c wx mo) tNil tNil σ H Q :=
  liftE_mono (fun x H1 ⟨a, dx, fs, e1, e2, e3, g⟩ => ⟨a, dx, fs, e1, e2, e3, liftA_nil (liftA_nil g)⟩) h
theorem meth_nil3 {C : Addr} {m : Str} {sp : Sp} {gV : List V → List V → List V} {Q : VK} (h : tMethE C m sp gV wx (liftE c wx mo) (liftA c wx A.nil) (liftA c wx mab) σ H Q) : tMethE C m sp gV wx (liftE c wx mo) tNil (liftA c wx mab) σ H Q :=
  liftE_mono (fun x H1 ⟨a, dx, fs, e1, e2, e3, g⟩ => ⟨a, dx, fs, e1, e2, e3, liftA_nil g⟩) h
theorem mk_nil {C : Addr} {sp : Sp} {gV : List V → List V → List V} {Q : VK} (h : tMkE C sp gV wx (liftA c wx maa) (liftA c wx A.nil) σ H Q) : tMkE C sp gV wx (liftA c wx maa) tNil σ H Q :=
  liftA_mono (fun vs H2 g => liftA_nil g) h
theorem mk_nil2 {C : Addr} {sp : Sp} {gV : List V → List V → List V} {Q : VK} (h : tMkE C sp gV wx (liftA c wx A.nil) (liftA c wx A.nil) σ H Q) : tMkE C sp gV wx tNil tNil σ H Q := liftA_nil (liftA_nil h)
theorem mk_nil3 {C : Addr} {sp : Sp} {gV : List V → List V → List V} {Q : VK} (h : tMkE C sp gV wx (liftA c wx A.nil) (liftA c wx mab) σ H Q) : tMkE C sp gV wx tNil (liftA c wx mab) σ H Q := liftA_nil h
theorem pd_methDn {cn mn : Str} {C : Addr} {n : Nat} {m : List D → Fr} {g : List W → List W → List W} {gV : List V → List V → List V} (hC : mg cn = some (.ref C)) (hg : GW K mg g gV) (h : PE X e (tMethE C mn (spP K mg n m) gV wx (liftE c wx mo) (liftA c wx maa) tNil)) : PE X e (liftE c wx (E.methD cn mn n m g mo maa A.nil)) := pd_of h fun σ H Q q => meth_nil (lift_methD hC hg σ H Q q)
theorem pd_methD0 {cn mn : Str} {C : Addr} {n : Nat} {m : List D → Fr} {g : List W → List W → List W} {gV : List V → List V → List V} (hC : mg cn = some (.ref C)) (hg : GW K mg g gV) (h : PE X e (tMethE C mn (spP K mg n m) gV wx (liftE c wx mo) tNil tNil)) : PE X e (liftE c wx (E.methD cn mn n m g mo A.nil A.nil)) := pd_of h fun σ H Q q => meth_nil2 (lift_methD hC hg σ H Q q)
theorem pd_methDk {cn mn : Str} {C : Addr} {n : Nat} {m : List D → Fr} {g : List W → List W → List W} {gV : List V → List V → List V} (hC : mg cn = some (.ref C)) (hg : GW K mg g gV) (h : PE X e (tMethE C mn (spP K mg n m) gV wx (liftE c wx mo) tNil (liftA c wx mab))) : PE X e (liftE c wx (E.methD cn mn n m g mo A.nil mab)) := pd_of h fun σ H Q q => meth_nil3 (lift_methD hC hg σ H Q q)
theorem pd_methOn {cn mn : Str} {C : Addr} {ks : List Pm} {m : List D → List Tr → FrO} {g : List W → List W → List W} {gV : List V → List V → List V} (hC : mg cn = some (.ref C)) (hg : GW K mg g gV) (h : PE X e (tMethE C mn (spO K mg ks m) gV wx (liftE c wx mo) (liftA c wx maa) tNil)) : PE X e (liftE c wx (E.methO cn mn ks m g mo maa A.nil)) := pd_of h fun σ H Q q => meth_nil (lift_methO hC hg σ H Q q)
theorem pd_methO0 {cn mn : Str} {C : Addr} {ks : List Pm} {m : List D → List Tr → FrO} {g : List W → List W → List W} {gV : List V → List V → List V} (hC : mg cn = some (.ref C)) (hg : GW K mg g gV) (h : PE X e (tMethE C mn (spO K mg ks m) gV wx (liftE c wx mo) tNil tNil)) : PE X e (liftE c wx (E.methO cn mn ks m g mo A.nil A.nil)) := pd_of h fun σ H Q q => meth_nil2 (lift_methO hC hg σ H Q q)
theorem pd_mkn {cn : Str} {C : Addr} {ks : List Pm} {m : List D → List Tr → FrO} {g : List W → List W → List W} {gV : List V → List V → List V} (hC : mg cn = some (.ref C)) (hg : GW K mg g gV) (h : PE X e (tMkE C (spO K mg (.io :: ks) m) gV wx (liftA c wx maa) tNil)) : PE X e (liftE c wx (E.mk cn ks m g maa A.nil)) := pd_of h fun σ H Q q => mk_nil (lift_mk hC hg σ H Q q)
theorem pd_mk0 {cn : Str} {C : Addr} {ks : List Pm} {m : List D → List Tr → FrO} {g : List W → List W → List W} {gV : List V → List V → List V} (hC : mg cn = some (.ref C)) (hg : GW K mg g gV) (h : PE X e (tMkE C (spO K mg (.io :: ks) m) gV wx tNil tNil)) : PE X e (liftE c wx (E.mk cn ks m g A.nil A.nil)) := pd_of h fun σ H Q q => mk_nil2 (lift_mk hC hg σ H Q q)
theorem pd_mkk {cn : Str} {C : Addr} {ks : List Pm} {m : List D → List Tr → FrO} {g : List W → List W → List W} {gV : List V → List V → List V} (hC : mg cn = some (.ref C)) (hg : GW K mg g gV) (h : PE X e (tMkE C (spO K mg (.io :: ks) m) gV wx tNil (liftA c wx mab))) : PE X e (liftE c wx (E.mk cn ks m g A.nil mab)) := pd_of h fun σ H Q q => mk_nil3 (lift_mk hC hg σ H Q q)
/-- the constants behind the arguments -/
theorem GW.app {cw : List W} {cV : List V} (hc : ∀ {c : Ctx K mg} {F H : Hp} {σ : L2.St} {ρ : Env}, RdWs c F σ H ρ cV cw) : GW K mg (fun ws zs => ws ++ (zs ++ cw)) (fun vs zs => vs ++ (zs ++ cV)) := by
  have app : ∀ {c : Ctx K mg} {F H : Hp} {σ : L2.St} {ρ : Env} {vs zs : List V} {ds es : List W}, RdWs c F σ H ρ vs ds → RdWs c F σ H ρ zs es → RdWs c F σ H ρ (vs ++ zs) (ds ++ es) := fun {c F H σ ρ vs zs ds es} h1 h2 => by
    induction vs generalizing ds with
    | nil => cases h1; exact h2
    | cons v vs ih => cases h1 with | cons e h r => exact .cons e h (ih r)
  intro c F H σ ρ vs zs ds es h1 h2
  exact app h1 (app h2 hc)
/-! ## defs with defaults -/
structure FunV (K : PySem.W.Frag) (x qual : Str) (st : Stmt) (f : Addr) (fd : FuncData) : Prop where
  ex : ∃ (oc : Value) (od : Option Addr) (dV kV doc pm : Value) (an : Option Addr) (cdv ct : Value) (osl : Array (Option Value)),
    fd = PySem.W.fnOf x qual (defArgs st) (defBody st) (defScope st) dV kV doc pm an cdv ct ∧ K.lookup f = some ⟨oc, od, .func fd, osl⟩ ∧ PySem.W.codeIn K cdv qual = true
  kp : PySem.W.keepIn K (.ref f) = true
theorem funV_mk {x qual : Str} {st : Stmt} {f : Addr} {oc : Value} {od an : Option Addr} {osl : Array (Option Value)} {dV kV doc pm cdv ct : Value} (l : K.lookup f = some ⟨oc, od, .func (PySem.W.fnOf x qual (defArgs st) (defBody st) (defScope st) dV kV doc pm an cdv ct), osl⟩)
    (c : PySem.W.codeIn K cdv qual = true) (k : PySem.W.keepIn K (.ref f) = true) : FunV K x qual st f (PySem.W.fnOf x qual (defArgs st) (defBody st) (defScope st) dV kV doc pm an cdv ct) := ⟨⟨oc, od, dV, kV, doc, pm, an, cdv, ct, osl, rfl, l, c⟩, k⟩
theorem fnXV {P : Program} {w : World} {base : Heap} {x qual : Str} {st : Stmt} {f : Addr} {fd : FuncData} {N ps : List Str} {k : Nat} {sp : Sp} (F : FunV K x qual st f fd) (S : FnScope N ps (defScope st)) (many : ∀ vs H Q E, sp vs H Q E → vs.length = ps.length)
    (hbody : ∀ (cdv : Value) (A : Around) (below : List PySem.Env) (s : Shared) (H : Hp) (vs : List V) (Q : VK) (E : XK), RoomG k (A.deeper (envOfC qual (defScope st) s.heap.objs.size f cdv)) → sp vs H Q E →
      ∃ t, PSs (cxOf (L2.CX P w) P w K mg base N qual (defScope st) f cdv A below s H E) (defBody st) t ∧ t { nx := fun _ G => Q .non G, rt := Q } (start N vs) H) : FnG P w K mg base (L2.CX P w) (k + 1) f fd ps sp := by
  obtain ⟨oc, od, dV, kV, doc, pm, an, cdv, ct, osl, rfl, lk, hcd⟩ := F.ex
  exact body_goes lk hcd S many fun A b s H vs Q E hr h => hbody cdv A b s H vs Q E hr h
theorem bd_items {s : Shared} {fd : FuncData} {args : Args} {binds : List (Str × Value)} {T : Addr} {o : Obj} {its : Array Value} {n : Nat} (X : K.In s.heap) (lT : K.lookup T = some o) (oT : o.data = .seq its n) (h : ∃ k, bindArgs fd args = seqItems? (.ref T) >>= k ∧ k (some its) = pure binds) : BindsTo s fd args binds := by
  obtain ⟨k, e1, e2⟩ := h
  refine L2.BindsTo.of_looks fun M => ?_
  rw [e1]
  exact looks_items X lT oT (.of_pure e2)
/-! ## list(range(..)) -/
def lrR (i j : Int) (ρ : Env) : Z W := if -(2 ^ 62) ≤ i ∧ i < 2 ^ 62 ∧ -(2 ^ 62) ≤ j ∧ j < 2 ^ 62 ∧ (j - i).toNat ≤ 16000000 then .ok (.f (I.upD i (j - i).toNat)) ρ else .bad
def lr1K : Option D → Env → Z W
  | some (.int j), ρ => lrR 0 j ρ
  | _, _ => .bad
def lr2K : Option D → Option D → Env → Z W
  | some (.int i), some (.int j), ρ => lrR i j ρ
  | _, _, _ => .bad
@[simp] def E.lrng1 (a : EM) (ρ : Env) : Z W := (a ρ).bind fun w ρ1 => lr1K (pk w.st ρ1) ρ1
@[simp] def E.lrng2 (a b : EM) (ρ : Env) : Z W := (a ρ).bind fun w ρ1 => (b ρ1).bind fun w2 ρ2 => lr2K (pk w.st ρ2) (pk w2.st ρ2) ρ2
theorem rgV_rd (i j : Int) : RdL K mg F (rgV i j) (I.upD i (j - i).toNat) := by
  unfold rgV I.upD
  generalize List.range (j - i).toNat = l
  induction l with
  | nil => exact .nil
  | cons n l ih => exact .cons (.int _) ih
theorem lrR_ok {i j : Int} {F0 : Hp} {Q : VK} (s0 : Same F0 F) (R : Rs c F σ H ρ) (p : Pst c wx F0 σ (lrR i j ρ) fun w ρ' => ∀ x F' H', Same F0 F' → Rs c F' σ H' ρ' → RdW c F' σ H' ρ' x w → Q x H') :
    RgOk i j ∧ ∀ q, H q = none → Q (.ref q) (upd H q (.lst (rgV i j))) := by
  unfold lrR at p
  split at p
  · rename_i h
    refine ⟨⟨h.1, h.2.1, h.2.2.1, h.2.2.2.1, by omega⟩, fun q nq => ?_⟩
    exact p _ F _ s0 (R.alloc nq) ⟨q, rgV i j, rfl, R.up.free nq, R.none0 nq, upd_same, rgV_rd i j, R.noNew nq⟩
  · exact p.elim
theorem lift_lrng1 (σ : L2.St) (H : Hp) (Q : VK) (h : liftE c wx (E.lrng1 ma) σ H Q) : tLstRg (tRg1 (liftE c wx ma)) σ H Q := by
  obtain ⟨F, ρ, R, p⟩ := h
  refine ⟨F, ρ, R, p.bnd.im fun w ρ1 p x F1 H1 s1 R1 r1 => ?_⟩
  obtain ⟨F2, s2, R2, r2⟩ := r1.toSt R1
  cases ek : pk w.st ρ1 with
  | none => rw [ek] at p; exact p.elim
  | some d =>
    rw [ek] at p
    cases d with
    | int j =>
      have ex := (R2.pk r2 (by cases w <;> rfl) ek).int
      exact ⟨j, ex, lrR_ok (s1.trans s2) R2 p⟩
    | _ => exact p.elim
theorem lift_lrng2 (σ : L2.St) (H : Hp) (Q : VK) (h : liftE c wx (E.lrng2 ma mb) σ H Q) : tLstRg (tRg2 (liftE c wx ma) (liftE c wx mb)) σ H Q := by
  obtain ⟨F, ρ, R, p⟩ := h
  refine ⟨F, ρ, R, p.bnd.im fun w1 ρ1 p x F1 H1 s1 R1 r1 => ?_⟩
  obtain ⟨F1', s1', R1', r1'⟩ := r1.toSt R1
  refine ⟨F1', ρ1, R1', p.bnd.up (s1.trans s1') fun w2 ρ2 p y F2 H2 s2 R2 r2 => ?_⟩
  obtain ⟨F2', s2', R2', r2'⟩ := r2.toSt R2
  have k1 : RdW c F2' σ H2 ρ2 x w1.st := r1'.st_up (s2.trans s2') (by cases w1 <;> rfl)
  cases e1 : pk w1.st ρ2 with
  | none => rw [e1] at p; exact p.elim
  | some d1 =>
    rw [e1] at p
    cases d1 with
    | int i =>
      cases e2 : pk w2.st ρ2 with
      | none => rw [e2] at p; exact p.elim
      | some d2 =>
        rw [e2] at p
        cases d2 with
        | int j => exact ⟨i, j, (R2'.pk k1 (by cases w1 <;> rfl) e1).int, (R2'.pk r2' (by cases w2 <;> rfl) e2).int, lrR_ok (((s1.trans s1').trans s2).trans s2') R2' p⟩
        | _ => exact p.elim
    | _ => exact p.elim
theorem pd_lrng1 (h : PE X e (tLstRg (tRg1 (liftE c wx ma)))) : PE X e (liftE c wx (E.lrng1 ma)) := pd_of h lift_lrng1
theorem pd_lrng2 (h : PE X e (tLstRg (tRg2 (liftE c wx ma) (liftE c wx mb)))) : PE X e (liftE c wx (E.lrng2 ma mb)) := pd_of h lift_lrng2
end
end Dx

namespace Dx
open PySem PySem.Spec PyProof.Rows L2 Hx
/-! ## comprehensions with two fors -/
@[simp] def lc2R (vs vs1 : List Nat) (g : GM) (t : TM) (s1 : IM) (g1 : GM) (t1 : TM) (e : EM) : List D → Env → Z (List D)
  | [], ρ => .ok [] ρ
  | d :: ds, ρ => onL (fun ρ1 => (noX (t ρ1)).bind fun b ρ2 => if b = true then (noX (s1 ρ2)).bind fun d1 ρ3 => if d1.length ≤ 4000 then (lcR vs1 g1 t1 e d1 (unE ρ3 vs1)).bind fun xs ρ4 => (lc2R vs vs1 g t s1 g1 t1 e ds (unE ρ4 vs)).bind fun ys ρ5 => .ok (xs ++ ys) ρ5 else .bad
      else lc2R vs vs1 g t s1 g1 t1 e ds (unE ρ2 vs)) (g d ρ)
@[simp] def E.lc2 (vs vs1 : List Nat) (s : IM) (g : GM) (t : TM) (s1 : IM) (g1 : GM) (t1 : TM) (e : EM) (ρ : Env) : Z W := (s ρ).bind fun ds ρ1 => if ds.length ≤ 4000 ∧ vs.all (fun v => plainS ρ1[v]?) = true then
    (lc2R vs vs1 g t s1 g1 t1 e ds (unE ρ1 vs)).bind fun ys ρ2 => .ok (.f ys) (reE ρ1 ρ2 vs)
  else .bad
section
variable {K : PySem.W.Frag} {mg : Str → Option Value} {c : Ctx K mg} {wx : WX} {F F1 H H1 : Hp} {σ σ' : L2.St} {ρ ρ1 : Env} {q p : Addr} {o : HO}
def liftI' (K : PySem.W.Frag) (mg : Str → Option Value) (s : IM) : TI := fun σ H R => ∃ c : Ctx K mg, liftI c WF s σ H R
theorem piA {X : Cx} {tg e : Expr} {s : IM} (h : ∀ c : Ctx K mg, PI X tg e (liftI c WF s)) : PI X tg e (liftI' K mg s) := ⟨fun pins st σ H R I ⟨c, q⟩ => (h c).run pins st σ H R I q⟩
theorem lift_lc2 {vs vs1 ns ns1 : List Nat} {s s1 : IM} {g g1 : GM} {t t1 : TM} {e : EM} (hns : ∀ i ∈ ns, i ∈ vs) (hns1 : ∀ i ∈ ns1, i ∈ vs1) (hv : ∀ i ∈ vs1, i ∈ vs) (σ : L2.St) (H : Hp) (Q : VK) (h : liftE c wx (E.lc2 vs vs1 s g t s1 g1 t1 e) σ H Q) : tLc2 (liftI c wx s) (liftG' K mg ns g) (liftT' K mg t) (liftI' K mg s1) (liftG' K mg ns1 g1) (liftT' K mg t1) (liftE' K mg e) vs vs1 σ H Q := by
  obtain ⟨F, ρ, R, p⟩ := h
  refine ⟨F, ρ, R, p.bnd.im fun ds ρ1 p J F1 H1 s1' R1 st A nA => ?_⟩
  by_cases cond : ds.length ≤ 4000 ∧ vs.all (fun v => plainS ρ1[v]?) = true
  rotate_left
  · rw [if_neg cond] at p; exact p.elim
  rw [if_pos cond] at p
  obtain ⟨hz, pl⟩ := cond
  have nF1 : F1 A = none := R1.up.free nA
  have fA : Fresh c A := R1.none0 nA
  have p := Pst.up s1' (Pst.bnd p) fun (a : List D) ρ2 k => (show ∀ x F' H', Same F1 F' → Rs c F' σ H' (reE ρ1 ρ2 vs) → RdW c F' σ H' (reE ρ1 ρ2 vs) x (.f a) → Q x H' from fun x F' H' s => k x F' H' (s1'.trans s))
  refine ⟨fun i m H' => m = ds.length - i ∧ i ≤ ds.length ∧ ∃ F' ρ' acc dacc, Same F1 F' ∧ Rs c F' (wipe σ vs) H' ρ' ∧ F' A = none ∧ H' A = some (.lst acc) ∧ RdL K mg F' acc dacc ∧ acc.length ≤ i * 4000 ∧ (∀ i, ¬ Ft (wipe σ vs) H' ρ' i A) ∧
    Pst c wx F' σ (lc2R vs vs1 g t s1 g1 t1 e (ds.drop i) ρ') fun ys ρ2 => ∀ x F'' H', Same F' F'' → Rs c F'' σ H' (reE ρ1 ρ2 vs) → RdW c F'' σ H' (reE ρ1 ρ2 vs) x (.f (dacc ++ ys)) → Q x H', ⟨ds.length, by simp, Nat.zero_le _, F1, unE ρ1 vs, [], [], Same.refl F1,
      (R1.alloc nA).unAt (fun i m => wipe_off m) (wipe_length σ vs), nF1, upd_same, .nil, Nat.zero_le _, fun i oi => ?_, ?_⟩, ?_⟩
  · exact R1.noNew nA i (Ft_unE (fun i m => wipe_off m) (R1.alloc nA) oi)
  · exact p.im fun ys ρ2 k x F' H' s' R' r' => k x F' H' s' R' r'
  rintro i m H' ⟨rfl, hi, F', ρ', acc, dacc, s', R', nA', hA, ra, la, no, p'⟩
  obtain ⟨go, stop⟩ := st c.P i F' H' s' R'.toHk
  by_cases hl : i < ds.length
  · obtain ⟨g1', g2⟩ := go hl
    have ed : ds[i]? = some ds[i] := List.getElem?_eq_getElem hl
    rw [List.drop_eq_getElem_cons hl] at p'
    generalize ds[i] = d at ed p'
    refine .inr ⟨g1', fun H2 => ∃ F2 ρ2 acc2 dacc2, Same F1 F2 ∧ Rs c F2 (wipe σ vs) H2 ρ2 ∧ F2 A = none ∧ H2 A = some (.lst acc2) ∧ RdL K mg F2 acc2 dacc2 ∧ acc2.length ≤ (i + 1) * 4000 ∧ (∀ i, ¬ Ft (wipe σ vs) H2 ρ2 i A) ∧
        Pst c wx F2 σ (lc2R vs vs1 g t s1 g1 t1 e (ds.drop (i + 1)) ρ2) fun ys ρ2 => ∀ x F'' H', Same F2 F'' → Rs c F'' σ H' (reE ρ1 ρ2 vs) → RdW c F'' σ H' (reE ρ1 ρ2 vs) x (.f (dacc2 ++ ys)) → Q x H',
      fun H2 w => ⟨ds.length - (i + 1), by omega, rfl, hl, w⟩, fun x H2 y => ?_⟩
    obtain ⟨F2, a, rd⟩ := g2 x H2 y
    dsimp only [lc2R] at p'
    have Rk : Rs (c.keep A (.lst acc)) F2 (wipe σ vs) H2 ρ' := (R'.keep hA trivial nA' no).adv a
    refine ⟨c.keep A (.lst acc), F2, ρ', d, Rk, rd d ed, ?_⟩
    cases eg : g d ρ' with
    | none => rw [eg] at p'; exact p'.elim
    | some ρ2 =>
      rw [eg] at p'
      dsimp only [onL] at p'
      refine fun σ3 F3 H3 s3 R3 off l3 => ⟨wipe_eq (by rw [l3, wipe_length]) fun j mj => off j fun z => mj (hns j z), c.keep A (.lst acc), F3, ρ2, R3, (Pst.noX' p').im fun b ρ3 p3 F4 H4 s4 R4 => ?_⟩
      replace a := a.ff.trans s3
      have lσ : (wipe σ vs).length = σ3.length := l3.symm
      have sF : Same F1 F4 := (s'.trans a).trans s4
      have offv : ∀ j, j ∉ vs → (wipe σ vs)[j]? = σ3[j]? := fun j mj => (off j fun z => mj (hns j z)).symm
      cases b with
      | false =>
        refine iteF ?_
        obtain ⟨R5, hA5, nA5, no5⟩ := R4.unkeep fA.2
        refine ⟨F4, unE ρ3 vs, acc, dacc, sF, R5.unAt offv lσ, nA5, hA5, ra.up (a.trans s4), by omega, fun j oj => ?_, Pst.up (a.trans s4) p3 fun ys ρ6 k x F' H' s6 => k x F' H' ((a.trans s4).trans s6)⟩
        exact no5 j (Ft_unE offv R5 oj)
      | true =>
        refine iteT ⟨c.keep A (.lst acc), F4, ρ3, R4, (Pst.noX' p3).im fun d1 ρ4 p4 J1 F5 H5 s5 R5 st1 => ?_⟩
        by_cases l1 : d1.length ≤ 4000
        rotate_left
        · rw [if_neg l1] at p4; exact p4.elim
        rw [if_pos l1] at p4
        obtain ⟨R6, hA6, nA6, no6⟩ := R5.unkeep fA.2
        have sF5 : Same F' F5 := (a.trans s4).trans s5
        have w1off : ∀ j, j ∉ vs1 → (wipe σ3 vs1)[j]? = σ3[j]? := fun j mj => wipe_off mj
        have w1len : (wipe σ3 vs1).length = σ3.length := wipe_length σ3 vs1
        refine ⟨fun j k H' => k = d1.length - j ∧ j ≤ d1.length ∧ ∃ F6 ρ6 acc6 dacc6, Same F5 F6 ∧ Rs c F6 (wipe σ3 vs1) H' ρ6 ∧ F6 A = none ∧ H' A = some (.lst acc6) ∧ RdL K mg F6 acc6 dacc6 ∧ acc6.length ≤ i * 4000 + j ∧ (∀ i, ¬ Ft (wipe σ3 vs1) H' ρ6 i A) ∧
            Pst c wx F6 σ (lcR vs1 g1 t1 e (d1.drop j) ρ6) fun xs ρ7 => Pst c wx F6 σ (lc2R vs vs1 g t s1 g1 t1 e (ds.drop (i + 1)) (unE ρ7 vs)) fun ys ρ8 => ∀ x F'' H', Same F6 F'' → Rs c F'' σ H' (reE ρ1 ρ8 vs) → RdW c F'' σ H' (reE ρ1 ρ8 vs) x (.f (dacc6 ++ xs ++ ys)) → Q x H',
          ⟨d1.length, by simp, Nat.zero_le _, F5, unE ρ4 vs1, acc, dacc, Same.refl F5, R6.unAt w1off w1len, nA6, hA6, ra.up sF5, by omega, fun j oj => no6 j (Ft_unE w1off R6 oj), ?_⟩, ?_⟩
        · exact Pst.up sF5 (Pst.bnd p4) fun xs ρ7 k => Pst.up sF5 (Pst.bnd k) fun ys ρ8 k x F'' H'' s6 R' r' => k x F'' H'' (sF5.trans s6) R' (by rw [List.append_assoc] at r'; exact r')
        rintro j k H6 ⟨rfl, hj, F6, ρ6, acc6, dacc6, s6, R7, nA7, hA7, ra7, la7, no7, p7⟩
        obtain ⟨go1, stop1⟩ := st1 c.P j F6 H6 s6 R7.toHk
        by_cases hl1 : j < d1.length
        · obtain ⟨h1, h2⟩ := go1 hl1
          have ed1 : d1[j]? = some d1[j] := List.getElem?_eq_getElem hl1
          rw [List.drop_eq_getElem_cons hl1] at p7
          generalize d1[j] = dd at ed1 p7
          refine .inr ⟨h1, fun H2 => ∃ F8 ρ8 acc8 dacc8, Same F5 F8 ∧ Rs c F8 (wipe σ3 vs1) H2 ρ8 ∧ F8 A = none ∧ H2 A = some (.lst acc8) ∧ RdL K mg F8 acc8 dacc8 ∧ acc8.length ≤ i * 4000 + (j + 1) ∧ (∀ i, ¬ Ft (wipe σ3 vs1) H2 ρ8 i A) ∧
              Pst c wx F8 σ (lcR vs1 g1 t1 e (d1.drop (j + 1)) ρ8) fun xs ρ7 => Pst c wx F8 σ (lc2R vs vs1 g t s1 g1 t1 e (ds.drop (i + 1)) (unE ρ7 vs)) fun ys ρ8 => ∀ x F'' H', Same F8 F'' → Rs c F'' σ H' (reE ρ1 ρ8 vs) → RdW c F'' σ H' (reE ρ1 ρ8 vs) x (.f (dacc8 ++ xs ++ ys)) → Q x H',
            fun H2 w => ⟨d1.length - (j + 1), by omega, rfl, hl1, w⟩, fun x H7 y => ?_⟩
          obtain ⟨F8, a8, rd8⟩ := h2 x H7 y
          dsimp only [lcR] at p7
          have Rk8 : Rs (c.keep A (.lst acc6)) F8 (wipe σ3 vs1) H7 ρ6 := (R7.keep hA7 trivial nA7 no7).adv a8
          refine ⟨c.keep A (.lst acc6), F8, ρ6, dd, Rk8, rd8 dd ed1, ?_⟩
          cases eg1 : g1 dd ρ6 with
          | none => rw [eg1] at p7; exact p7.elim
          | some ρ9 =>
            rw [eg1] at p7
            dsimp only [onL] at p7
            refine fun σ9 F9 H9 s9 R9 off9 l9 => ⟨wipe_eq (by rw [l9, wipe_length]) fun z mz => off9 z fun q => mz (hns1 z q), c.keep A (.lst acc6), F9, ρ9, R9, (Pst.noX' p7).im fun b ρa pa Fa Ha sa Ra => ?_⟩
            have aF : Same F6 Fa := (a8.ff.trans s9).trans sa
            have lσ9 : (wipe σ3 vs1).length = σ9.length := l9.symm
            have off1 : ∀ z, z ∉ vs1 → (wipe σ3 vs1)[z]? = σ9[z]? := fun z mz => (off9 z fun q => mz (hns1 z q)).symm
            cases b with
            | false =>
              refine iteF ?_
              obtain ⟨Rb, hAb, nAb, nob⟩ := Ra.unkeep fA.2
              refine ⟨Fa, unE ρa vs1, acc6, dacc6, s6.trans aF, Rb.unAt off1 lσ9, nAb, hAb, ra7.up aF, by omega, fun z oz => nob z (Ft_unE off1 Rb oz), Pst.up aF pa fun xs ρ7 k => Pst.up aF k fun ys ρ8 k x F' H' s6 => k x F' H' (aF.trans s6)⟩
            | true =>
              refine iteT ⟨c.keep A (.lst acc6), Fa, ρa, Ra, (Pst.noX' pa).im fun w ρb pb y Fb Hb sb Rb rb => ?_⟩
              have pb : Pst c wx F6 σ ((fz w ρb).bind fun y ρ4 => (lcR vs1 g1 t1 e (d1.drop (j + 1)) (unE ρ4 vs1)).bind fun ys ρ5 => .ok (y :: ys) ρ5) _ := pb
              cases ef : fz w ρb with
              | bad => rw [ef] at pb; exact pb.elim
              | ex _ _ _ => exact absurd ef fz_ne
              | ok dy ρc =>
                rw [ef] at pb
                obtain ⟨Fc, sc, Rc, rc⟩ := fz_ok Rb rb ef
                obtain ⟨Rd1, hAd, nAd, nod⟩ := Rc.unkeep fA.2
                have sFc : Same F6 Fc := (aF.trans sb).trans sc
                have szl : acc6.length < sizeLine := by
                  rw [sizeLine_eq]
                  have : i * 4000 ≤ 4000 * 4000 := Nat.mul_le_mul_right _ (by omega)
                  omega
                refine ⟨acc6, hAd, szl, Fc, unE ρc vs1, acc6 ++ [y], dacc6 ++ [dy], s6.trans sFc, (Rd1.touch hAd (fun _ _ _ => nofun) nAd fA nod).unAt off1 lσ9, nAd, upd_same, (ra7.up sFc).app (.one rc), by rw [List.length_append]; simp; omega, fun z oz => ?_, ?_⟩
                · exact Rd1.noTouch hAd (fun _ _ _ => nofun) nAd fA nod z (Ft_unE off1 (Rd1.touch hAd (fun _ _ _ => nofun) nAd fA nod) oz)
                · refine Pst.up sFc (Pst.bnd pb) fun xs ρ7 k => ?_
                  exact Pst.up sFc k fun ys ρ8 k x F' H' s9 R' r' => k x F' H' (sFc.trans s9) R' (by rw [List.append_assoc dacc6 [dy] xs] at r'; exact r')
        · have e1 : j = d1.length := by omega
          subst e1
          rw [List.drop_length] at p7
          have offA : ∀ z, z ∉ vs → (wipe σ vs)[z]? = (wipe σ3 vs1)[z]? := fun z mz => (offv z mz).trans (wipe_off fun q => mz (hv z q)).symm
          refine .inl ⟨stop1 rfl, F6, unE ρ6 vs, acc6, dacc6, (s'.trans sF5).trans s6, R7.unAt offA (by rw [w1len]; exact lσ), nA7, hA7, ra7, by omega, fun z oz => no7 z (Ft_unE offA R7 oz), ?_⟩
          have p7 : Pst c wx F6 σ (lc2R vs vs1 g t s1 g1 t1 e (ds.drop (i + 1)) (unE ρ6 vs)) _ := p7
          exact p7.im fun ys ρ8 k x F'' H'' s8 R' r' => k x F'' H'' s8 R' (by rw [List.append_nil]; exact r')
  · have e : i = ds.length := by omega
    subst e
    rw [List.drop_length] at p'
    obtain ⟨Rf, back⟩ := R'.reAt R1 s' pl (fun j mj => wipe_off mj) (wipe_length σ vs)
    exact .inl ⟨stop rfl, p' _ F' H' (Same.refl _) Rf ⟨A, acc, rfl, nA', fA, hA, by rw [List.append_nil]; exact ra, fun j hj => no j (back j A hj).2⟩⟩
theorem pd_lc2 {X : Cx} {ex : Expr} {vs vs1 ns ns1 : List Nat} {s s1 : IM} {g g1 : GM} {t t1 : TM} {e : EM} (h : PE X ex (tLc2 (liftI c wx s) (liftG' K mg ns g) (liftT' K mg t) (liftI' K mg s1) (liftG' K mg ns1 g1) (liftT' K mg t1) (liftE' K mg e) vs vs1)) (hns : ∀ i ∈ ns, i ∈ vs := by decide) (hns1 : ∀ i ∈ ns1, i ∈ vs1 := by decide) (hv : ∀ i ∈ vs1, i ∈ vs := by decide) : PE X ex (liftE c wx (E.lc2 vs vs1 s g t s1 g1 t1 e)) := pd_of h (lift_lc2 hns hns1 hv)
end
/-! ## len(d) -/
def rLenX : List V → Hp → VK → Prop := fun xs H Q => ∃ a, xs = [.ref a] ∧ ((∃ kvs, L2.Rd H a (.dK kvs) ∧ Q (.int (kvs.length : Nat)) H) ∨ ∃ kvs, L2.Rd H a (.dT kvs) ∧ Q (.int (kvs.length : Nat)) H)
theorem call_lenX {X : Cx} : CallR X (.builtin "len") rLenX := by
  intro pins s σ H xs us Q I r h
  obtain ⟨p, rfl, h⟩ := h
  obtain ⟨u, rfl, rx⟩ := vals1 r
  obtain rfl : u = .ref p := rx
  rcases h with ⟨kvs, hp, q⟩ | ⟨kvs, hp, q⟩
  · exact L2.d_len I hp fun t s' I' => ⟨.int (kvs.length : Nat), H, I', ⟨t, rfl⟩, q⟩
  · obtain ⟨z, hd, ys, rel, dd⟩ := dt_rd I.hok hp
    have hl : kvs.length = ys.length := Paired.length rel
    refine call_len_dictH hd dd (by rw [← hl]; rw [sizeLine_eq] at z; omega) ?_
    rw [← hl]
    exact ⟨.int ((kvs.length : Nat) : Int), H, I.tok _, ⟨_, rfl⟩, q⟩
def O.lenD : D → Option W
  | .dct _ es => some (.t (.int es.length))
  | _ => none
section
variable {K : PySem.W.Frag} {mg : Str → Option Value} {c : Ctx K mg} {wx : WX} {X : Cx} {e : Expr} {me : EM}
theorem d_lenD : OpD1 K mg (fun x H Q => rLenX [x] H Q) O.lenD := by
  intro F H x d Q u hx q
  cases d with
  | dct b es =>
    obtain ⟨a, rfl, h⟩ := hx.dct u
    refine ⟨a, rfl, ?_⟩
    rcases h with ⟨_, kvs, h, r⟩ | ⟨_, kvs, h, r⟩
    · refine .inl ⟨kvs, h, ?_⟩
      rw [r.len']
      exact Res.sc (z := .int es.length) u q fun _ => .int _
    · refine .inr ⟨kvs, h, ?_⟩
      rw [r.len']
      exact Res.sc (z := .int es.length) u q fun _ => .int _
  | _ => exact q.elim
theorem pd_lenD (h : PE X e (tCB rLenX (tCons (liftE c wx me) tNil))) : PE X e (liftE c wx (E.op1 O.lenD me)) := pd_of h (lift_op1 d_lenD)
end
end Dx

/-! ## the equations of the data layer, for simp (printed by a program of this repo from the definitions) -/
namespace Dx
@[simp] theorem q_Z_bind_1 : ∀ {α β : Type} (x : α → Dx.Env → Dx.Z β) (a : α) (ρ : Dx.Env), Dx.Z.bind (Dx.Z.ok a ρ) x = x a ρ := @Dx.Z.bind.eq_1
@[simp] theorem q_Z_bind_2 : ∀ {α β : Type} (x : α → Dx.Env → Dx.Z β) (c : PySem.Str) (fs : List (PySem.Str × Dx.D)) (ρ : Dx.Env), Dx.Z.bind (Dx.Z.ex c fs ρ) x = Dx.Z.ex c fs ρ := @Dx.Z.bind.eq_2
@[simp] theorem q_Z_bind_3 : ∀ {α β : Type} (x : α → Dx.Env → Dx.Z β), Dx.Z.bind Dx.Z.bad x = Dx.Z.bad := @Dx.Z.bind.eq_3
@[simp] theorem q_W_st_1 : ∀ (ds : List Dx.D), Dx.W.st (Dx.W.f ds) = Dx.W.t (Dx.D.lst ds) := @Dx.W.st.eq_1
@[simp] theorem q_W_st_2 : ∀ (b : Bool) (kvs : List (Dx.D × Dx.D)), Dx.W.st (Dx.W.g b kvs) = Dx.W.t (Dx.D.dct b kvs) := @Dx.W.st.eq_2
@[simp] theorem q_W_st_3 : ∀ (x_1 : Dx.Tr), Dx.W.st (Dx.W.u x_1) = Dx.W.t (Dx.Tr.toD x_1) := @Dx.W.st.eq_3
@[simp] theorem q_W_st_4 : ∀ (d : Dx.D), Dx.W.st (Dx.W.t d) = Dx.W.t d := @Dx.W.st.eq_4
@[simp] theorem q_W_st_5 : ∀ (i : Nat), Dx.W.st (Dx.W.o i) = Dx.W.o i := @Dx.W.st.eq_5
@[simp] theorem q_pkS_1 : ∀ (o : Bool) (ds : List Dx.D), Dx.pkS (Option.some (Dx.Slot.ol o ds)) = Option.some (Dx.D.lst ds) := @Dx.pkS.eq_1
@[simp] theorem q_pkS_2 : ∀ (b : Bool) (kvs : List (Dx.D × Dx.D)), Dx.pkS (Option.some (Dx.Slot.od b kvs)) = Option.some (Dx.D.dct b kvs) := @Dx.pkS.eq_2
@[simp] theorem q_pkS_3 : ∀ (d : Dx.D), Dx.pkS (Option.some (Dx.Slot.tr d)) = Option.some d := @Dx.pkS.eq_3
@[simp] theorem q_pkS_4 : ∀ (m : Dx.Md) (t : Dx.Tr), Dx.pkS (Option.some (Dx.Slot.ob m t)) = Option.none := @Dx.pkS.eq_4
@[simp] theorem q_pkS_5 : ∀ (c : PySem.Str) (fs : List (PySem.Str × Dx.D)), Dx.pkS (Option.some (Dx.Slot.xe c fs)) = Option.none := @Dx.pkS.eq_5
@[simp] theorem q_pkS_6 : Dx.pkS (Option.some Dx.Slot.un) = Option.none := @Dx.pkS.eq_6
@[simp] theorem q_pkS_7 : Dx.pkS Option.none = Option.none := @Dx.pkS.eq_7
@[simp] theorem q_pk_1 : ∀ (x : Dx.Env) (d : Dx.D), Dx.pk (Dx.W.t d) x = Option.some d := @Dx.pk.eq_1
@[simp] theorem q_pk_2 : ∀ (x : Dx.Env) (ds : List Dx.D), Dx.pk (Dx.W.f ds) x = Option.some (Dx.D.lst ds) := @Dx.pk.eq_2
@[simp] theorem q_pk_3 : ∀ (x : Dx.Env) (b : Bool) (kvs : List (Dx.D × Dx.D)), Dx.pk (Dx.W.g b kvs) x = Option.some (Dx.D.dct b kvs) := @Dx.pk.eq_3
@[simp] theorem q_pk_4 : ∀ (x : Dx.Env) (t : Dx.Tr), Dx.pk (Dx.W.u t) x = Option.none := @Dx.pk.eq_4
@[simp] theorem q_pk_5 : ∀ (x : Dx.Env) (i : Nat), Dx.pk (Dx.W.o i) x = Dx.pkS x[i]? := @Dx.pk.eq_5
@[simp] theorem q_fzS_1 : ∀ (x : Nat) (x_1 : Dx.Env) (ds : List Dx.D), Dx.fzS (Option.some (Dx.Slot.ol Bool.false ds)) x x_1 = Dx.Z.ok (Dx.D.lst ds) (List.set x_1 x (Dx.Slot.tr (Dx.D.lst ds))) := @Dx.fzS.eq_1
@[simp] theorem q_fzS_2 : ∀ (x : Nat) (x_1 : Dx.Env) (ds : List Dx.D), Dx.fzS (Option.some (Dx.Slot.ol Bool.true ds)) x x_1 = Dx.Z.bad := @Dx.fzS.eq_2
@[simp] theorem q_fzS_3 : ∀ (x : Nat) (x_1 : Dx.Env) (b : Bool) (kvs : List (Dx.D × Dx.D)), Dx.fzS (Option.some (Dx.Slot.od b kvs)) x x_1 = Dx.Z.ok (Dx.D.dct b kvs) (List.set x_1 x (Dx.Slot.tr (Dx.D.dct b kvs))) := @Dx.fzS.eq_3
@[simp] theorem q_fzS_4 : ∀ (x : Nat) (x_1 : Dx.Env) (d : Dx.D), Dx.fzS (Option.some (Dx.Slot.tr d)) x x_1 = Dx.Z.ok d x_1 := @Dx.fzS.eq_4
@[simp] theorem q_fzS_5 : ∀ (x : Nat) (x_1 : Dx.Env) (t : Dx.Tr), Dx.fzS (Option.some (Dx.Slot.ob Dx.Md.mine t)) x x_1 = Dx.Z.ok (Dx.Tr.toD t) (List.set x_1 x (Dx.Slot.tr (Dx.Tr.toD t))) := @Dx.fzS.eq_5
@[simp] theorem q_fzS_6 : ∀ (x : Nat) (x_1 : Dx.Env) (s : Bool) (t : Dx.Tr), Dx.fzS (Option.some (Dx.Slot.ob (Dx.Md.io s) t)) x x_1 = Dx.Z.bad := @Dx.fzS.eq_6
@[simp] theorem q_fzS_7 : ∀ (x : Nat) (x_1 : Dx.Env) (t : Dx.Tr), Dx.fzS (Option.some (Dx.Slot.ob Dx.Md.ro t)) x x_1 = Dx.Z.bad := @Dx.fzS.eq_7
@[simp] theorem q_fzS_8 : ∀ (x : Nat) (x_1 : Dx.Env) (c : PySem.Str) (fs : List (PySem.Str × Dx.D)), Dx.fzS (Option.some (Dx.Slot.xe c fs)) x x_1 = Dx.Z.bad := @Dx.fzS.eq_8
@[simp] theorem q_fzS_9 : ∀ (x : Nat) (x_1 : Dx.Env), Dx.fzS (Option.some Dx.Slot.un) x x_1 = Dx.Z.bad := @Dx.fzS.eq_9
@[simp] theorem q_fzS_10 : ∀ (x : Nat) (x_1 : Dx.Env), Dx.fzS Option.none x x_1 = Dx.Z.bad := @Dx.fzS.eq_10
@[simp] theorem q_fz_1 : ∀ (x : Dx.Env) (d : Dx.D), Dx.fz (Dx.W.t d) x = Dx.Z.ok d x := @Dx.fz.eq_1
@[simp] theorem q_fz_2 : ∀ (x : Dx.Env) (ds : List Dx.D), Dx.fz (Dx.W.f ds) x = Dx.Z.ok (Dx.D.lst ds) x := @Dx.fz.eq_2
@[simp] theorem q_fz_3 : ∀ (x : Dx.Env) (b : Bool) (kvs : List (Dx.D × Dx.D)), Dx.fz (Dx.W.g b kvs) x = Dx.Z.ok (Dx.D.dct b kvs) x := @Dx.fz.eq_3
@[simp] theorem q_fz_4 : ∀ (x : Dx.Env) (t : Dx.Tr), Dx.fz (Dx.W.u t) x = Dx.Z.ok (Dx.Tr.toD t) x := @Dx.fz.eq_4
@[simp] theorem q_fz_5 : ∀ (x : Dx.Env) (i : Nat), Dx.fz (Dx.W.o i) x = Dx.fzS x[i]? i x := @Dx.fz.eq_5
@[simp] theorem q_toW_1 : ∀ (x : Dx.Env) (d : Dx.D), Dx.toW (Option.some (Dx.W.t d)) x = Dx.Z.ok (Dx.W.t d) x := @Dx.toW.eq_1
@[simp] theorem q_toW_2 : ∀ (x : Dx.Env) (ds : List Dx.D), Dx.toW (Option.some (Dx.W.f ds)) x = Dx.Z.ok (Dx.W.f ds) x := @Dx.toW.eq_2
@[simp] theorem q_toW_3 : ∀ (x : Dx.Env) (b : Bool) (es : List (Dx.D × Dx.D)), Dx.toW (Option.some (Dx.W.g b es)) x = Dx.Z.ok (Dx.W.g b es) x := @Dx.toW.eq_3
@[simp] theorem q_toW_4 : ∀ (x : Dx.Env) (i : Nat), Dx.toW (Option.some (Dx.W.o i)) x = Dx.Z.bad := @Dx.toW.eq_4
@[simp] theorem q_toW_5 : ∀ (x : Dx.Env) (t : Dx.Tr), Dx.toW (Option.some (Dx.W.u t)) x = Dx.Z.bad := @Dx.toW.eq_5
@[simp] theorem q_toW_6 : ∀ (x : Dx.Env), Dx.toW Option.none x = Dx.Z.bad := @Dx.toW.eq_6
@[simp] theorem q_E_varR_1 : ∀ (x : Nat) (x_1 : Dx.Env) (d : Dx.D), Dx.E.varR (Option.some (Dx.Slot.tr d)) x x_1 = Dx.Z.ok (Dx.W.t d) x_1 := @Dx.E.varR.eq_1
@[simp] theorem q_E_varR_2 : ∀ (x : Nat) (x_1 : Dx.Env) (o : Bool) (ds : List Dx.D), Dx.E.varR (Option.some (Dx.Slot.ol o ds)) x x_1 = Dx.Z.ok (Dx.W.o x) x_1 := @Dx.E.varR.eq_2
@[simp] theorem q_E_varR_3 : ∀ (x : Nat) (x_1 : Dx.Env) (b : Bool) (kvs : List (Dx.D × Dx.D)), Dx.E.varR (Option.some (Dx.Slot.od b kvs)) x x_1 = Dx.Z.ok (Dx.W.o x) x_1 := @Dx.E.varR.eq_3
@[simp] theorem q_E_varR_4 : ∀ (x : Nat) (x_1 : Dx.Env) (m : Dx.Md) (t : Dx.Tr), Dx.E.varR (Option.some (Dx.Slot.ob m t)) x x_1 = Dx.Z.ok (Dx.W.o x) x_1 := @Dx.E.varR.eq_4
@[simp] theorem q_E_varR_5 : ∀ (x : Nat) (x_1 : Dx.Env) (c : PySem.Str) (fs : List (PySem.Str × Dx.D)), Dx.E.varR (Option.some (Dx.Slot.xe c fs)) x x_1 = Dx.Z.bad := @Dx.E.varR.eq_5
@[simp] theorem q_E_varR_6 : ∀ (x : Nat) (x_1 : Dx.Env), Dx.E.varR (Option.some Dx.Slot.un) x x_1 = Dx.Z.bad := @Dx.E.varR.eq_6
@[simp] theorem q_E_varR_7 : ∀ (x : Nat) (x_1 : Dx.Env), Dx.E.varR Option.none x x_1 = Dx.Z.bad := @Dx.E.varR.eq_7
@[simp] theorem q_E_ap2_1 : ∀ (f : Dx.D → Dx.D → Option Dx.W) (x : Dx.Env) (d1 d2 : Dx.D), Dx.E.ap2 f (Option.some d1) (Option.some d2) x = Dx.toW (f d1 d2) x := @Dx.E.ap2.eq_1
@[simp] theorem q_E_ap2_2 : ∀ (f : Dx.D → Dx.D → Option Dx.W) (x : Option Dx.D) (x_1 : Dx.Env), Dx.E.ap2 f Option.none x x_1 = Dx.Z.bad := @Dx.E.ap2.eq_2
@[simp] theorem q_E_ap2_3 : ∀ (f : Dx.D → Dx.D → Option Dx.W) (x : Dx.Env) (val : Dx.D), Dx.E.ap2 f (Option.some val) Option.none x = Dx.Z.bad := @Dx.E.ap2.eq_3
@[simp] theorem q_E_ap1_1 : ∀ (f : Dx.D → Option Dx.W) (x : Dx.Env) (d1 : Dx.D), Dx.E.ap1 f (Option.some d1) x = Dx.toW (f d1) x := @Dx.E.ap1.eq_1
@[simp] theorem q_E_ap1_2 : ∀ (f : Dx.D → Option Dx.W) (x : Dx.Env), Dx.E.ap1 f Option.none x = Dx.Z.bad := @Dx.E.ap1.eq_2
@[simp] theorem q_E_andR_1 : ∀ (b : Dx.EM) (x : Dx.Env) (d : Dx.D), Dx.E.andR b (Dx.W.t d) x = Dx.E.anD b d (Dx.E.truD d) x := @Dx.E.andR.eq_1
@[simp] theorem q_E_andR_2 : ∀ (b : Dx.EM) (x : Dx.W) (x_1 : Dx.Env), (∀ (d : Dx.D), x = Dx.W.t d → False) → Dx.E.andR b x x_1 = Dx.Z.bad := @Dx.E.andR.eq_2
@[simp] theorem q_E_orR_1 : ∀ (b : Dx.EM) (x : Dx.Env) (d : Dx.D), Dx.E.orR b (Dx.W.t d) x = Dx.E.orD b d (Dx.E.truD d) x := @Dx.E.orR.eq_1
@[simp] theorem q_E_orR_2 : ∀ (b : Dx.EM) (x : Dx.W) (x_1 : Dx.Env), (∀ (d : Dx.D), x = Dx.W.t d → False) → Dx.E.orR b x x_1 = Dx.Z.bad := @Dx.E.orR.eq_2
@[simp] theorem q_E_notR_1 : ∀ (x : Dx.Env) (x_2 : Bool), Dx.E.notR (Dx.W.t (Dx.D.bl x_2)) x = Dx.Z.ok (Dx.W.t (Dx.D.bl !x_2)) x := @Dx.E.notR.eq_1
@[simp] theorem q_E_notR_2 : ∀ (x : Dx.W) (x_1 : Dx.Env), (∀ (x_2 : Bool), x = Dx.W.t (Dx.D.bl x_2) → False) → Dx.E.notR x x_1 = Dx.Z.bad := @Dx.E.notR.eq_2
@[simp] theorem q_E_chR_1 : ∀ (k : Dx.Env → Dx.Z Dx.W) (x : Dx.Env), Dx.E.chR k (Option.some (Dx.W.t (Dx.D.bl Bool.true))) x = k x := @Dx.E.chR.eq_1
@[simp] theorem q_E_chR_2 : ∀ (k : Dx.Env → Dx.Z Dx.W) (x : Dx.Env), Dx.E.chR k (Option.some (Dx.W.t (Dx.D.bl Bool.false))) x = Dx.Z.ok (Dx.W.t (Dx.D.bl Bool.false)) x := @Dx.E.chR.eq_2
@[simp] theorem q_E_chR_3 : ∀ (k : Dx.Env → Dx.Z Dx.W) (x : Option Dx.W) (x_1 : Dx.Env), (x = Option.some (Dx.W.t (Dx.D.bl Bool.true)) → False) → (x = Option.some (Dx.W.t (Dx.D.bl Bool.false)) → False) → Dx.E.chR k x x_1 = Dx.Z.bad := @Dx.E.chR.eq_3
@[simp] theorem q_E_chA_1 : ∀ (f : Dx.D → Dx.D → Option Dx.W) (k : Dx.Env → Dx.Z Dx.W) (x : Dx.Env) (d1 d2 : Dx.D), Dx.E.chA f k (Option.some d1) (Option.some d2) x = Dx.E.chR k (f d1 d2) x := @Dx.E.chA.eq_1
@[simp] theorem q_E_chA_2 : ∀ (f : Dx.D → Dx.D → Option Dx.W) (k : Dx.Env → Dx.Z Dx.W) (x : Option Dx.D) (x_1 : Dx.Env), Dx.E.chA f k Option.none x x_1 = Dx.Z.bad := @Dx.E.chA.eq_2
@[simp] theorem q_E_chA_3 : ∀ (f : Dx.D → Dx.D → Option Dx.W) (k : Dx.Env → Dx.Z Dx.W) (x : Dx.Env) (val : Dx.D), Dx.E.chA f k (Option.some val) Option.none x = Dx.Z.bad := @Dx.E.chA.eq_3
@[simp] theorem q_consO_1 : ∀ (d : Dx.D) (ds : List Dx.D), Dx.consO (Option.some d) (Option.some ds) = Option.some (d :: ds) := @Dx.consO.eq_1
@[simp] theorem q_consO_2 : ∀ (x : Option (List Dx.D)), Dx.consO Option.none x = Option.none := @Dx.consO.eq_2
@[simp] theorem q_consO_3 : ∀ (val : Dx.D), Dx.consO (Option.some val) Option.none = Option.none := @Dx.consO.eq_3
@[simp] theorem q_E_apL_1 : ∀ (f : List Dx.D → Option Dx.W) (x : Dx.Env) (ds : List Dx.D), Dx.E.apL f (Option.some ds) x = Dx.toW (f ds) x := @Dx.E.apL.eq_1
@[simp] theorem q_E_apL_2 : ∀ (f : List Dx.D → Option Dx.W) (x : Dx.Env), Dx.E.apL f Option.none x = Dx.Z.bad := @Dx.E.apL.eq_2
@[simp] theorem q_E_frW_1 : ∀ (x : Dx.Env) (d : Dx.D) (io : List Dx.D), Dx.E.frW (Dx.Fr.ok (Dx.W.t d) io) x = Dx.Z.ok (Dx.W.t d) x := @Dx.E.frW.eq_1
@[simp] theorem q_E_frW_2 : ∀ (x : Dx.Env) (ds io : List Dx.D), Dx.E.frW (Dx.Fr.ok (Dx.W.f ds) io) x = Dx.Z.ok (Dx.W.f ds) x := @Dx.E.frW.eq_2
@[simp] theorem q_E_frW_3 : ∀ (x : Dx.Env) (b : Bool) (es : List (Dx.D × Dx.D)) (io : List Dx.D), Dx.E.frW (Dx.Fr.ok (Dx.W.g b es) io) x = Dx.Z.ok (Dx.W.g b es) x := @Dx.E.frW.eq_3
@[simp] theorem q_E_frW_4 : ∀ (x : Dx.Env) (t : Dx.Tr) (io : List Dx.D), Dx.E.frW (Dx.Fr.ok (Dx.W.u t) io) x = Dx.Z.ok (Dx.W.u t) x := @Dx.E.frW.eq_4
@[simp] theorem q_E_frW_5 : ∀ (x : Dx.Env) (i : Nat) (io : List Dx.D), Dx.E.frW (Dx.Fr.ok (Dx.W.o i) io) x = Dx.Z.bad := @Dx.E.frW.eq_5
@[simp] theorem q_E_frW_6 : ∀ (x : Dx.Env) (c : PySem.Str) (fs : List (PySem.Str × Dx.D)) (io : List Dx.D), Dx.E.frW (Dx.Fr.ex c fs io) x = Dx.Z.ex c fs x := @Dx.E.frW.eq_6
@[simp] theorem q_E_frW_7 : ∀ (x : Dx.Env), Dx.E.frW Dx.Fr.bad x = Dx.Z.bad := @Dx.E.frW.eq_7
@[simp] theorem q_E_frI_1 : ∀ (i : Nat) (o : Bool) (x : Dx.Env) (w : Dx.W) (zs' : List Dx.D), Dx.E.frI i o (Dx.Fr.ok w zs') x = Dx.E.frW (Dx.Fr.ok w []) (List.set x i (Dx.Slot.ol o zs')) := @Dx.E.frI.eq_1
@[simp] theorem q_E_frI_2 : ∀ (i : Nat) (o : Bool) (x : Dx.Env) (c : PySem.Str) (fs : List (PySem.Str × Dx.D)) (zs' : List Dx.D), Dx.E.frI i o (Dx.Fr.ex c fs zs') x = Dx.Z.ex c fs (List.set x i (Dx.Slot.ol o zs')) := @Dx.E.frI.eq_2
@[simp] theorem q_E_frI_3 : ∀ (i : Nat) (o : Bool) (x : Dx.Env), Dx.E.frI i o Dx.Fr.bad x = Dx.Z.bad := @Dx.E.frI.eq_3
@[simp] theorem q_E_caI_1 : ∀ (m : List Dx.D → List Dx.D → Dx.Fr) (ds : List Dx.D) (i : Nat) (x : Dx.Env) (o : Bool) (zs : List Dx.D), Dx.E.caI m ds i (Option.some (Dx.Slot.ol o zs)) x = Dx.E.frI i o (m zs ds) x := @Dx.E.caI.eq_1
@[simp] theorem q_E_caI_2 : ∀ (m : List Dx.D → List Dx.D → Dx.Fr) (ds : List Dx.D) (i : Nat) (x : Option Dx.Slot) (x_1 : Dx.Env), (∀ (o : Bool) (zs : List Dx.D), x = Option.some (Dx.Slot.ol o zs) → False) → Dx.E.caI m ds i x x_1 = Dx.Z.bad := @Dx.E.caI.eq_2
@[simp] theorem q_E_isOl_1 : ∀ (o : Bool) (ds : List Dx.D), Dx.E.isOl (Option.some (Dx.Slot.ol o ds)) = Bool.true := @Dx.E.isOl.eq_1
@[simp] theorem q_E_isOl_2 : ∀ (x : Option Dx.Slot), (∀ (o : Bool) (ds : List Dx.D), x = Option.some (Dx.Slot.ol o ds) → False) → Dx.E.isOl x = Bool.false := @Dx.E.isOl.eq_2
@[simp] theorem q_T_valR_1 : ∀ (x : Dx.Env) (x_2 : Bool), Dx.T.valR (Dx.W.t (Dx.D.bl x_2)) x = Dx.Z.ok x_2 x := @Dx.T.valR.eq_1
@[simp] theorem q_T_valR_2 : ∀ (x : Dx.W) (x_1 : Dx.Env), (∀ (x_2 : Bool), x = Dx.W.t (Dx.D.bl x_2) → False) → Dx.T.valR x x_1 = Dx.Z.bad := @Dx.T.valR.eq_2
@[simp] theorem q_store_1 : ∀ (x : Nat) (x_1 : Dx.Env) (d : Dx.D), Dx.store x (Dx.W.t d) x_1 = Dx.Z.ok Dx.Sig.nx (List.set x_1 x (Dx.Slot.tr d)) := @Dx.store.eq_1
@[simp] theorem q_store_2 : ∀ (x : Nat) (x_1 : Dx.Env) (ds : List Dx.D), Dx.store x (Dx.W.f ds) x_1 = Dx.Z.ok Dx.Sig.nx (List.set x_1 x (Dx.Slot.ol Bool.false ds)) := @Dx.store.eq_2
@[simp] theorem q_store_3 : ∀ (x : Nat) (x_1 : Dx.Env) (b : Bool) (es : List (Dx.D × Dx.D)), Dx.store x (Dx.W.g b es) x_1 = Dx.Z.ok Dx.Sig.nx (List.set x_1 x (Dx.Slot.od b es)) := @Dx.store.eq_3
@[simp] theorem q_store_4 : ∀ (x : Nat) (x_1 : Dx.Env) (t : Dx.Tr), Dx.store x (Dx.W.u t) x_1 = Dx.Z.ok Dx.Sig.nx (List.set x_1 x (Dx.Slot.ob Dx.Md.mine t)) := @Dx.store.eq_4
@[simp] theorem q_store_5 : ∀ (x : Nat) (x_1 : Dx.Env) (j : Nat), Dx.store x (Dx.W.o j) x_1 = Dx.Z.bind (Dx.fz (Dx.W.o j) x_1) fun (d : Dx.D) (ρ1 : Dx.Env) ↦ Dx.Z.ok Dx.Sig.nx (List.set ρ1 x (Dx.Slot.tr d)) := @Dx.store.eq_5
@[simp] theorem q_G_nil_1 : ∀ (x : Dx.Env), Dx.G.nil [] x = Option.some x := @Dx.G.nil.eq_1
@[simp] theorem q_G_nil_2 : ∀ (x : Dx.Env) (head : Dx.D) (tail : List Dx.D), Dx.G.nil (head :: tail) x = Option.none := @Dx.G.nil.eq_2
@[simp] theorem q_G_cons_1 : ∀ (g : Dx.GM) (gs : Dx.GMs) (x : Dx.Env) (d : Dx.D) (ds : List Dx.D), Dx.G.cons g gs (d :: ds) x = Option.bind (g d x) fun (ρ1 : Dx.Env) ↦ gs ds ρ1 := @Dx.G.cons.eq_1
@[simp] theorem q_G_cons_2 : ∀ (g : Dx.GM) (gs : Dx.GMs) (x : Dx.Env), Dx.G.cons g gs [] x = Option.none := @Dx.G.cons.eq_2
@[simp] theorem q_G_tup_1 : ∀ (n : Nat) (gs : Dx.GMs) (x : Dx.Env) (ds : List Dx.D), Dx.G.tup n gs (Dx.D.tup ds) x = if List.length ds = n then gs ds x else Option.none := @Dx.G.tup.eq_1
@[simp] theorem q_G_tup_2 : ∀ (n : Nat) (gs : Dx.GMs) (x : Dx.D) (x_1 : Dx.Env), (∀ (ds : List Dx.D), x = Dx.D.tup ds → False) → Dx.G.tup n gs x x_1 = Option.none := @Dx.G.tup.eq_2
@[simp] theorem q_foK_1 : ∀ (k : Dx.Env → Dx.Z Dx.Sig) (x : Dx.Env), Dx.foK k Dx.Sig.nx x = k x := @Dx.foK.eq_1
@[simp] theorem q_foK_2 : ∀ (k : Dx.Env → Dx.Z Dx.Sig) (x : Dx.Env), Dx.foK k Dx.Sig.ct x = k x := @Dx.foK.eq_2
@[simp] theorem q_foK_3 : ∀ (k : Dx.Env → Dx.Z Dx.Sig) (x : Dx.Env), Dx.foK k Dx.Sig.bk x = Dx.Z.ok Dx.Sig.nx x := @Dx.foK.eq_3
@[simp] theorem q_foK_4 : ∀ (k : Dx.Env → Dx.Z Dx.Sig) (x : Dx.Env) (w : Dx.W), Dx.foK k (Dx.Sig.rt w) x = Dx.Z.ok (Dx.Sig.rt w) x := @Dx.foK.eq_4
@[simp] theorem q_S_sqR_1 : ∀ (b : Dx.SM) (x : Dx.Env), Dx.S.sqR b Dx.Sig.nx x = b x := @Dx.S.sqR.eq_1
@[simp] theorem q_S_sqR_2 : ∀ (b : Dx.SM) (x : Dx.Env), Dx.S.sqR b Dx.Sig.bk x = Dx.Z.ok Dx.Sig.bk x := @Dx.S.sqR.eq_2
@[simp] theorem q_S_sqR_3 : ∀ (b : Dx.SM) (x : Dx.Env), Dx.S.sqR b Dx.Sig.ct x = Dx.Z.ok Dx.Sig.ct x := @Dx.S.sqR.eq_3
@[simp] theorem q_S_sqR_4 : ∀ (b : Dx.SM) (x : Dx.Env) (w : Dx.W), Dx.S.sqR b (Dx.Sig.rt w) x = Dx.Z.ok (Dx.Sig.rt w) x := @Dx.S.sqR.eq_4
@[simp] theorem q_S_toN_1 : ∀ (ρ : Dx.Env), Dx.S.toN (Option.some ρ) = Dx.Z.ok Dx.Sig.nx ρ := @Dx.S.toN.eq_1
@[simp] theorem q_S_toN_2 : Dx.S.toN Option.none = Dx.Z.bad := @Dx.S.toN.eq_2
@[simp] theorem q_S_retS_1 : ∀ (x : Nat) (x_1 : Dx.Env) (ds : List Dx.D), Dx.S.retS (Option.some (Dx.Slot.ol Bool.false ds)) x x_1 = Dx.Z.ok (Dx.Sig.rt (Dx.W.f ds)) (List.set x_1 x Dx.Slot.un) := @Dx.S.retS.eq_1
@[simp] theorem q_S_retS_2 : ∀ (x : Nat) (x_1 : Dx.Env) (ds : List Dx.D), Dx.S.retS (Option.some (Dx.Slot.ol Bool.true ds)) x x_1 = Dx.Z.bad := @Dx.S.retS.eq_2
@[simp] theorem q_S_retS_3 : ∀ (x : Nat) (x_1 : Dx.Env) (b : Bool) (es : List (Dx.D × Dx.D)), Dx.S.retS (Option.some (Dx.Slot.od b es)) x x_1 = Dx.Z.ok (Dx.Sig.rt (Dx.W.g b es)) (List.set x_1 x Dx.Slot.un) := @Dx.S.retS.eq_3
@[simp] theorem q_S_retS_4 : ∀ (x : Nat) (x_1 : Dx.Env) (t : Dx.Tr), Dx.S.retS (Option.some (Dx.Slot.ob Dx.Md.mine t)) x x_1 = Dx.Z.ok (Dx.Sig.rt (Dx.W.u t)) (List.set x_1 x Dx.Slot.un) := @Dx.S.retS.eq_4
@[simp] theorem q_S_retS_5 : ∀ (x : Nat) (x_1 : Dx.Env) (s : Bool) (t : Dx.Tr), Dx.S.retS (Option.some (Dx.Slot.ob (Dx.Md.io s) t)) x x_1 = Dx.Z.bad := @Dx.S.retS.eq_5
@[simp] theorem q_S_retS_6 : ∀ (x : Nat) (x_1 : Dx.Env) (t : Dx.Tr), Dx.S.retS (Option.some (Dx.Slot.ob Dx.Md.ro t)) x x_1 = Dx.Z.bad := @Dx.S.retS.eq_6
@[simp] theorem q_S_retS_7 : ∀ (x : Nat) (x_1 : Dx.Env) (c : PySem.Str) (fs : List (PySem.Str × Dx.D)), Dx.S.retS (Option.some (Dx.Slot.xe c fs)) x x_1 = Dx.Z.bad := @Dx.S.retS.eq_7
@[simp] theorem q_S_retS_8 : ∀ (x : Nat) (x_1 : Dx.Env) (d : Dx.D), Dx.S.retS (Option.some (Dx.Slot.tr d)) x x_1 = Dx.Z.ok (Dx.Sig.rt (Dx.W.t d)) x_1 := @Dx.S.retS.eq_8
@[simp] theorem q_S_retS_9 : ∀ (x : Nat) (x_1 : Dx.Env), Dx.S.retS (Option.some Dx.Slot.un) x x_1 = Dx.Z.bad := @Dx.S.retS.eq_9
@[simp] theorem q_S_retS_10 : ∀ (x : Nat) (x_1 : Dx.Env), Dx.S.retS Option.none x x_1 = Dx.Z.bad := @Dx.S.retS.eq_10
@[simp] theorem q_S_retW_1 : ∀ (x : Dx.Env) (i : Nat), Dx.S.retW (Dx.W.o i) x = Dx.S.retS x[i]? i x := @Dx.S.retW.eq_1
@[simp] theorem q_S_retW_2 : ∀ (x : Dx.Env) (d : Dx.D), Dx.S.retW (Dx.W.t d) x = Dx.Z.ok (Dx.Sig.rt (Dx.W.t d)) x := @Dx.S.retW.eq_2
@[simp] theorem q_S_retW_3 : ∀ (x : Dx.Env) (ds : List Dx.D), Dx.S.retW (Dx.W.f ds) x = Dx.Z.ok (Dx.Sig.rt (Dx.W.f ds)) x := @Dx.S.retW.eq_3
@[simp] theorem q_S_retW_4 : ∀ (x : Dx.Env) (b : Bool) (es : List (Dx.D × Dx.D)), Dx.S.retW (Dx.W.g b es) x = Dx.Z.ok (Dx.Sig.rt (Dx.W.g b es)) x := @Dx.S.retW.eq_4
@[simp] theorem q_S_retW_5 : ∀ (x : Dx.Env) (t : Dx.Tr), Dx.S.retW (Dx.W.u t) x = Dx.Z.ok (Dx.Sig.rt (Dx.W.u t)) x := @Dx.S.retW.eq_5
@[simp] theorem q_S_onS_1 : ∀ (b : Dx.SM) (ρ : Dx.Env), Dx.S.onS b (Option.some ρ) = b ρ := @Dx.S.onS.eq_1
@[simp] theorem q_S_onS_2 : ∀ (b : Dx.SM), Dx.S.onS b Option.none = Dx.Z.bad := @Dx.S.onS.eq_2
@[simp] theorem q_S_auR_1 : ∀ (i : Nat) (f : Dx.D → Dx.D → Option Dx.W) (d0 : Dx.D) (x : Dx.Env) (d1 : Dx.D), Dx.S.auR i f d0 (Option.some d1) x = Dx.Z.bind (Dx.toW (f d0 d1) x) fun (w : Dx.W) (ρ2 : Dx.Env) ↦ Dx.store i w ρ2 := @Dx.S.auR.eq_1
@[simp] theorem q_S_auR_2 : ∀ (i : Nat) (f : Dx.D → Dx.D → Option Dx.W) (d0 : Dx.D) (x : Dx.Env), Dx.S.auR i f d0 Option.none x = Dx.Z.bad := @Dx.S.auR.eq_2
@[simp] theorem q_S_auS_1 : ∀ (i : Nat) (f : Dx.D → Dx.D → Option Dx.W) (e : Dx.EM) (x : Dx.Env) (d0 : Dx.D), Dx.S.auS i f e (Option.some (Dx.Slot.tr d0)) x = Dx.Z.bind (e x) fun (w : Dx.W) (ρ1 : Dx.Env) ↦ Dx.S.auR i f d0 (Dx.pk (Dx.W.st w) ρ1) ρ1 := @Dx.S.auS.eq_1
@[simp] theorem q_S_auS_2 : ∀ (i : Nat) (f : Dx.D → Dx.D → Option Dx.W) (e : Dx.EM) (x : Option Dx.Slot) (x_1 : Dx.Env), (∀ (d0 : Dx.D), x = Option.some (Dx.Slot.tr d0) → False) → Dx.S.auS i f e x x_1 = Dx.Z.bad := @Dx.S.auS.eq_2
@[simp] theorem q_plainS_1 : Dx.plainS (Option.some Dx.Slot.un) = Bool.true := @Dx.plainS.eq_1
@[simp] theorem q_plainS_2 : ∀ (d : Dx.D), Dx.plainS (Option.some (Dx.Slot.tr d)) = Bool.true := @Dx.plainS.eq_2
@[simp] theorem q_plainS_3 : ∀ (o : Bool) (ds : List Dx.D), Dx.plainS (Option.some (Dx.Slot.ol o ds)) = Bool.false := @Dx.plainS.eq_3
@[simp] theorem q_plainS_4 : ∀ (b : Bool) (kvs : List (Dx.D × Dx.D)), Dx.plainS (Option.some (Dx.Slot.od b kvs)) = Bool.false := @Dx.plainS.eq_4
@[simp] theorem q_plainS_5 : ∀ (m : Dx.Md) (t : Dx.Tr), Dx.plainS (Option.some (Dx.Slot.ob m t)) = Bool.false := @Dx.plainS.eq_5
@[simp] theorem q_plainS_6 : ∀ (c : PySem.Str) (fs : List (PySem.Str × Dx.D)), Dx.plainS (Option.some (Dx.Slot.xe c fs)) = Bool.false := @Dx.plainS.eq_6
@[simp] theorem q_plainS_7 : Dx.plainS Option.none = Bool.false := @Dx.plainS.eq_7
@[simp] theorem q_onL_1 : ∀ (k : Dx.Env → Dx.Z (List Dx.D)) (ρ : Dx.Env), Dx.onL k (Option.some ρ) = k ρ := @Dx.onL.eq_1
@[simp] theorem q_onL_2 : ∀ (k : Dx.Env → Dx.Z (List Dx.D)), Dx.onL k Option.none = Dx.Z.bad := @Dx.onL.eq_2
@[simp] theorem q_LM_append_1 : ∀ (x : List Dx.D) (e : Dx.D), Dx.LM.append x [e] = if List.length x < 16000000 then Option.some (Dx.D.non, x ++ [e]) else Option.none := @Dx.LM.append.eq_1
@[simp] theorem q_LM_append_2 : ∀ (x x_1 : List Dx.D), (∀ (e : Dx.D), x_1 = [e] → False) → Dx.LM.append x x_1 = Option.none := @Dx.LM.append.eq_2
@[simp] theorem q_LM_popO_1 : ∀ (ds : List Dx.D) (d : Dx.D), Dx.LM.popO ds (Option.some d) = Option.some (d, List.dropLast ds) := @Dx.LM.popO.eq_1
@[simp] theorem q_LM_popO_2 : ∀ (ds : List Dx.D), Dx.LM.popO ds Option.none = Option.none := @Dx.LM.popO.eq_2
@[simp] theorem q_LM_pop_1 : ∀ (x : List Dx.D), Dx.LM.pop x [] = Dx.LM.popO x x[List.length x - 1]? := @Dx.LM.pop.eq_1
@[simp] theorem q_LM_pop_2 : ∀ (x : List Dx.D) (head : Dx.D) (tail : List Dx.D), Dx.LM.pop x (head :: tail) = Option.none := @Dx.LM.pop.eq_2
@[simp] theorem q_LM_popAt_1 : ∀ (x : List Dx.D) (i : Int), Dx.LM.popAt x [Dx.D.int i] = if 0 ≤ i ∧ i < ↑(List.length x) ∧ i < 2 ^ 63 then Option.map (fun (d : Dx.D) ↦ (d, List.eraseIdx x (Int.toNat i))) x[Int.toNat i]? else Option.none := @Dx.LM.popAt.eq_1
@[simp] theorem q_LM_popAt_2 : ∀ (x x_1 : List Dx.D), (∀ (i : Int), x_1 = [Dx.D.int i] → False) → Dx.LM.popAt x x_1 = Option.none := @Dx.LM.popAt.eq_2
@[simp] theorem q_LM_insert_1 : ∀ (x : List Dx.D) (i : Int) (e : Dx.D), Dx.LM.insert x [Dx.D.int i, e] = if 0 ≤ i ∧ i < 2 ^ 63 ∧ List.length x < 16000000 then Option.some (Dx.D.non, List.take (Int.toNat i) x ++ [e] ++ List.drop (Int.toNat i) x) else Option.none := @Dx.LM.insert.eq_1
@[simp] theorem q_LM_insert_2 : ∀ (x x_1 : List Dx.D), (∀ (i : Int) (e : Dx.D), x_1 = [Dx.D.int i, e] → False) → Dx.LM.insert x x_1 = Option.none := @Dx.LM.insert.eq_2
@[simp] theorem q_E_lmO_1 : ∀ (i : Nat) (o : Bool) (x : Dx.Env) (d : Dx.D) (zs : List Dx.D), Dx.E.lmO i o (Option.some (d, zs)) x = Dx.Z.ok (Dx.W.t d) (List.set x i (Dx.Slot.ol o zs)) := @Dx.E.lmO.eq_1
@[simp] theorem q_E_lmO_2 : ∀ (i : Nat) (o : Bool) (x : Dx.Env), Dx.E.lmO i o Option.none x = Dx.Z.bad := @Dx.E.lmO.eq_2
@[simp] theorem q_E_lmR_1 : ∀ (f : Dx.LM) (ds : List Dx.D) (i : Nat) (x : Dx.Env) (o : Bool) (zs : List Dx.D), Dx.E.lmR f ds i (Option.some (Dx.Slot.ol o zs)) x = Dx.E.lmO i o (f zs ds) x := @Dx.E.lmR.eq_1
@[simp] theorem q_E_lmR_2 : ∀ (f : Dx.LM) (ds : List Dx.D) (i : Nat) (x : Option Dx.Slot) (x_1 : Dx.Env), (∀ (o : Bool) (zs : List Dx.D), x = Option.some (Dx.Slot.ol o zs) → False) → Dx.E.lmR f ds i x x_1 = Dx.Z.bad := @Dx.E.lmR.eq_2
@[simp] theorem q_E_extO_1 : ∀ (i j : Nat) (o : Bool) (zs : List Dx.D) (x : Dx.Env) (o_1 : Bool) (zs_1 : List Dx.D), Dx.E.extO i j o zs (Option.some (Dx.Slot.ol o_1 zs_1)) x = if j = i then Dx.Z.bad else if List.length zs + List.length zs_1 ≤ 16000000 then Dx.Z.ok (Dx.W.t Dx.D.non) (List.set x i (Dx.Slot.ol o (zs ++ zs_1))) else Dx.Z.bad := @Dx.E.extO.eq_1
@[simp] theorem q_E_extO_2 : ∀ (i j : Nat) (o : Bool) (zs : List Dx.D) (x : Option Dx.Slot) (x_1 : Dx.Env), (∀ (o : Bool) (zs : List Dx.D), x = Option.some (Dx.Slot.ol o zs) → False) → Dx.E.extO i j o zs x x_1 = Dx.Z.bad := @Dx.E.extO.eq_2
@[simp] theorem q_E_extR_1 : ∀ (i : Nat) (x : Dx.Env) (o : Bool) (zs es : List Dx.D), Dx.E.extR i (Option.some (Dx.Slot.ol o zs)) (Dx.W.f es) x = if List.length zs + List.length es ≤ 16000000 then Dx.Z.ok (Dx.W.t Dx.D.non) (List.set x i (Dx.Slot.ol o (zs ++ es))) else Dx.Z.bad := @Dx.E.extR.eq_1
@[simp] theorem q_E_extR_2 : ∀ (i : Nat) (x : Dx.Env) (o : Bool) (zs : List Dx.D) (j : Nat), Dx.E.extR i (Option.some (Dx.Slot.ol o zs)) (Dx.W.o j) x = Dx.E.extO i j o zs x[j]? x := @Dx.E.extR.eq_2
@[simp] theorem q_E_extR_3 : ∀ (i : Nat) (x : Option Dx.Slot) (x_1 : Dx.W) (x_2 : Dx.Env), (∀ (o : Bool) (zs es : List Dx.D), x = Option.some (Dx.Slot.ol o zs) → x_1 = Dx.W.f es → False) → (∀ (o : Bool) (zs : List Dx.D) (j : Nat), x = Option.some (Dx.Slot.ol o zs) → x_1 = Dx.W.o j → False) → Dx.E.extR i x x_1 x_2 = Dx.Z.bad := @Dx.E.extR.eq_3
@[simp] theorem q_setiR_1 : ∀ (i : Nat) (d : Dx.D) (x : Dx.Env) (k : Int) (o : Bool) (zs : List Dx.D), Dx.setiR i d (Option.some (Dx.D.int k)) (Option.some (Dx.Slot.ol o zs)) x = if 0 ≤ k ∧ k < ↑(List.length zs) then Dx.Z.ok Dx.Sig.nx (List.set x i (Dx.Slot.ol o (List.set zs (Int.toNat k) d))) else Dx.Z.bad := @Dx.setiR.eq_1
@[simp] theorem q_setiR_2 : ∀ (i : Nat) (d : Dx.D) (x : Option Dx.D) (x_1 : Option Dx.Slot) (x_2 : Dx.Env), (∀ (k : Int) (o : Bool) (zs : List Dx.D), x = Option.some (Dx.D.int k) → x_1 = Option.some (Dx.Slot.ol o zs) → False) → Dx.setiR i d x x_1 x_2 = Dx.Z.bad := @Dx.setiR.eq_2
@[simp] theorem q_endP_1 : ∀ (d : Dx.D) (ρ : Dx.Env), Dx.endP (Dx.Z.ok (Dx.Sig.rt (Dx.W.t d)) ρ) = Dx.Fr.ok (Dx.W.t d) [] := @Dx.endP.eq_1
@[simp] theorem q_endP_2 : ∀ (ds : List Dx.D) (ρ : Dx.Env), Dx.endP (Dx.Z.ok (Dx.Sig.rt (Dx.W.f ds)) ρ) = Dx.Fr.ok (Dx.W.f ds) [] := @Dx.endP.eq_2
@[simp] theorem q_endP_3 : ∀ (b : Bool) (es : List (Dx.D × Dx.D)) (ρ : Dx.Env), Dx.endP (Dx.Z.ok (Dx.Sig.rt (Dx.W.g b es)) ρ) = Dx.Fr.ok (Dx.W.g b es) [] := @Dx.endP.eq_3
@[simp] theorem q_endP_4 : ∀ (t : Dx.Tr) (ρ : Dx.Env), Dx.endP (Dx.Z.ok (Dx.Sig.rt (Dx.W.u t)) ρ) = Dx.Fr.ok (Dx.W.u t) [] := @Dx.endP.eq_4
@[simp] theorem q_endP_5 : ∀ (i : Nat) (ρ : Dx.Env), Dx.endP (Dx.Z.ok (Dx.Sig.rt (Dx.W.o i)) ρ) = Dx.Fr.bad := @Dx.endP.eq_5
@[simp] theorem q_endP_6 : ∀ (ρ : Dx.Env), Dx.endP (Dx.Z.ok Dx.Sig.nx ρ) = Dx.Fr.ok (Dx.W.t Dx.D.non) [] := @Dx.endP.eq_6
@[simp] theorem q_endP_7 : ∀ (ρ : Dx.Env), Dx.endP (Dx.Z.ok Dx.Sig.bk ρ) = Dx.Fr.bad := @Dx.endP.eq_7
@[simp] theorem q_endP_8 : ∀ (ρ : Dx.Env), Dx.endP (Dx.Z.ok Dx.Sig.ct ρ) = Dx.Fr.bad := @Dx.endP.eq_8
@[simp] theorem q_endP_9 : ∀ (c : PySem.Str) (fs : List (PySem.Str × Dx.D)) (ρ : Dx.Env), Dx.endP (Dx.Z.ex c fs ρ) = Dx.Fr.ex c fs [] := @Dx.endP.eq_9
@[simp] theorem q_endP_10 : Dx.endP Dx.Z.bad = Dx.Fr.bad := @Dx.endP.eq_10
@[simp] theorem q_ioS_1 : ∀ (k : List Dx.D → Dx.Fr) (zs : List Dx.D), Dx.ioS k (Option.some (Dx.Slot.ol Bool.true zs)) = k zs := @Dx.ioS.eq_1
@[simp] theorem q_ioS_2 : ∀ (k : List Dx.D → Dx.Fr) (x : Option Dx.Slot), (∀ (zs : List Dx.D), x = Option.some (Dx.Slot.ol Bool.true zs) → False) → Dx.ioS k x = Dx.Fr.bad := @Dx.ioS.eq_2
@[simp] theorem q_endI_1 : ∀ (d : Dx.D) (ρ : Dx.Env), Dx.endI (Dx.Z.ok (Dx.Sig.rt (Dx.W.t d)) ρ) = Dx.ioOf ρ fun (zs : List Dx.D) ↦ Dx.Fr.ok (Dx.W.t d) zs := @Dx.endI.eq_1
@[simp] theorem q_endI_2 : ∀ (ds : List Dx.D) (ρ : Dx.Env), Dx.endI (Dx.Z.ok (Dx.Sig.rt (Dx.W.f ds)) ρ) = Dx.ioOf ρ fun (zs : List Dx.D) ↦ Dx.Fr.ok (Dx.W.f ds) zs := @Dx.endI.eq_2
@[simp] theorem q_endI_3 : ∀ (b : Bool) (es : List (Dx.D × Dx.D)) (ρ : Dx.Env), Dx.endI (Dx.Z.ok (Dx.Sig.rt (Dx.W.g b es)) ρ) = Dx.ioOf ρ fun (zs : List Dx.D) ↦ Dx.Fr.ok (Dx.W.g b es) zs := @Dx.endI.eq_3
@[simp] theorem q_endI_4 : ∀ (t : Dx.Tr) (ρ : Dx.Env), Dx.endI (Dx.Z.ok (Dx.Sig.rt (Dx.W.u t)) ρ) = Dx.ioOf ρ fun (zs : List Dx.D) ↦ Dx.Fr.ok (Dx.W.u t) zs := @Dx.endI.eq_4
@[simp] theorem q_endI_5 : ∀ (i : Nat) (ρ : Dx.Env), Dx.endI (Dx.Z.ok (Dx.Sig.rt (Dx.W.o i)) ρ) = Dx.Fr.bad := @Dx.endI.eq_5
@[simp] theorem q_endI_6 : ∀ (ρ : Dx.Env), Dx.endI (Dx.Z.ok Dx.Sig.nx ρ) = Dx.ioOf ρ fun (zs : List Dx.D) ↦ Dx.Fr.ok (Dx.W.t Dx.D.non) zs := @Dx.endI.eq_6
@[simp] theorem q_endI_7 : ∀ (ρ : Dx.Env), Dx.endI (Dx.Z.ok Dx.Sig.bk ρ) = Dx.Fr.bad := @Dx.endI.eq_7
@[simp] theorem q_endI_8 : ∀ (ρ : Dx.Env), Dx.endI (Dx.Z.ok Dx.Sig.ct ρ) = Dx.Fr.bad := @Dx.endI.eq_8
@[simp] theorem q_endI_9 : ∀ (c : PySem.Str) (fs : List (PySem.Str × Dx.D)) (ρ : Dx.Env), Dx.endI (Dx.Z.ex c fs ρ) = Dx.ioOf ρ fun (zs : List Dx.D) ↦ Dx.Fr.ex c fs zs := @Dx.endI.eq_9
@[simp] theorem q_endI_10 : Dx.endI Dx.Z.bad = Dx.Fr.bad := @Dx.endI.eq_10
@[simp] theorem q_D_flat_1 : Dx.D.flat Dx.D.non = Option.some L2.V.non := @Dx.D.flat.eq_1
@[simp] theorem q_D_flat_2 : ∀ (b : Bool), Dx.D.flat (Dx.D.bl b) = Option.some (L2.V.bl b) := @Dx.D.flat.eq_2
@[simp] theorem q_D_flat_3 : ∀ (i : Int), Dx.D.flat (Dx.D.int i) = Option.some (L2.V.int i) := @Dx.D.flat.eq_3
@[simp] theorem q_D_flat_4 : ∀ (s : PySem.Str), Dx.D.flat (Dx.D.str s) = Option.some (L2.V.str s) := @Dx.D.flat.eq_4
@[simp] theorem q_D_flat_5 : ∀ (x : Dx.D), (x = Dx.D.non → False) → (∀ (b : Bool), x = Dx.D.bl b → False) → (∀ (i : Int), x = Dx.D.int i → False) → (∀ (s : PySem.Str), x = Dx.D.str s → False) → Dx.D.flat x = Option.none := @Dx.D.flat.eq_5
@[simp] theorem q_isNon_1 : Dx.isNon Dx.D.non = Bool.true := @Dx.isNon.eq_1
@[simp] theorem q_isNon_2 : ∀ (x : Dx.D), (x = Dx.D.non → False) → Dx.isNon x = Bool.false := @Dx.isNon.eq_2
@[simp] theorem q_O_add_1 : ∀ (a b : Int), Dx.O.add (Dx.D.int a) (Dx.D.int b) = Dx.wi (a + b) := @Dx.O.add.eq_1
@[simp] theorem q_O_add_2 : ∀ (a b : PySem.Str), Dx.O.add (Dx.D.str a) (Dx.D.str b) = if PySem.Str.length a + PySem.Str.length b ≤ 16000000 then Dx.ws (a ++ b) else Option.none := @Dx.O.add.eq_2
@[simp] theorem q_O_add_3 : ∀ (a b : List Dx.D), Dx.O.add (Dx.D.lst a) (Dx.D.lst b) = if List.length a + List.length b ≤ 16000000 then Option.some (Dx.W.f (a ++ b)) else Option.none := @Dx.O.add.eq_3
@[simp] theorem q_O_add_4 : ∀ (a b : List Dx.D), Dx.O.add (Dx.D.tup a) (Dx.D.tup b) = if List.length a + List.length b ≤ 16000000 ∧ a ≠ [] ∧ b ≠ [] then Option.some (Dx.W.t (Dx.D.tup (a ++ b))) else Option.none := @Dx.O.add.eq_4
@[simp] theorem q_O_add_5 : ∀ (x x_1 : Dx.D), (∀ (a b : Int), x = Dx.D.int a → x_1 = Dx.D.int b → False) → (∀ (a b : PySem.Str), x = Dx.D.str a → x_1 = Dx.D.str b → False) → (∀ (a b : List Dx.D), x = Dx.D.lst a → x_1 = Dx.D.lst b → False) → (∀ (a b : List Dx.D), x = Dx.D.tup a → x_1 = Dx.D.tup b → False) → Dx.O.add x x_1 = Option.none := @Dx.O.add.eq_5
@[simp] theorem q_O_sub_1 : ∀ (a b : Int), Dx.O.sub (Dx.D.int a) (Dx.D.int b) = Dx.wi (a - b) := @Dx.O.sub.eq_1
@[simp] theorem q_O_sub_2 : ∀ (x x_1 : Dx.D), (∀ (a b : Int), x = Dx.D.int a → x_1 = Dx.D.int b → False) → Dx.O.sub x x_1 = Option.none := @Dx.O.sub.eq_2
@[simp] theorem q_O_mul_1 : ∀ (a b : Int), Dx.O.mul (Dx.D.int a) (Dx.D.int b) = if -2 ^ 64 < a ∧ a < 2 ^ 64 ∨ -2 ^ 64 < b ∧ b < 2 ^ 64 then Dx.wi (a * b) else Option.none := @Dx.O.mul.eq_1
@[simp] theorem q_O_mul_2 : ∀ (z : PySem.Str) (b : Int), Dx.O.mul (Dx.D.str z) (Dx.D.int b) = if 0 ≤ b ∧ b ≤ 1000000 ∧ PySem.Str.length z ≤ 1000000 ∧ PySem.Str.length z * Int.toNat b ≤ 1000000 then Dx.ws (Hx.mulS z (Int.toNat b)) else Option.none := @Dx.O.mul.eq_2
@[simp] theorem q_O_mul_3 : ∀ (a : List Dx.D) (b : Int), Dx.O.mul (Dx.D.lst a) (Dx.D.int b) = if b ≤ 1000000 ∧ -1000000 ≤ b ∧ List.length a * Int.toNat b ≤ 16000000 then Option.some (Dx.W.f (Dx.repD a (Int.toNat b))) else Option.none := @Dx.O.mul.eq_3
@[simp] theorem q_O_mul_4 : ∀ (x x_1 : Dx.D), (∀ (a b : Int), x = Dx.D.int a → x_1 = Dx.D.int b → False) → (∀ (z : PySem.Str) (b : Int), x = Dx.D.str z → x_1 = Dx.D.int b → False) → (∀ (a : List Dx.D) (b : Int), x = Dx.D.lst a → x_1 = Dx.D.int b → False) → Dx.O.mul x x_1 = Option.none := @Dx.O.mul.eq_4
@[simp] theorem q_O_mod_1 : ∀ (a b : Int), Dx.O.mod (Dx.D.int a) (Dx.D.int b) = if 0 < b then Dx.wi (a % b) else Option.none := @Dx.O.mod.eq_1
@[simp] theorem q_O_mod_2 : ∀ (x x_1 : Dx.D), (∀ (a b : Int), x = Dx.D.int a → x_1 = Dx.D.int b → False) → Dx.O.mod x x_1 = Option.none := @Dx.O.mod.eq_2
@[simp] theorem q_O_fdiv_1 : ∀ (a b : Int), Dx.O.fdiv (Dx.D.int a) (Dx.D.int b) = if 0 < b ∧ b < 1073741824 then Dx.wi (a / b) else Option.none := @Dx.O.fdiv.eq_1
@[simp] theorem q_O_fdiv_2 : ∀ (x x_1 : Dx.D), (∀ (a b : Int), x = Dx.D.int a → x_1 = Dx.D.int b → False) → Dx.O.fdiv x x_1 = Option.none := @Dx.O.fdiv.eq_2
@[simp] theorem q_O_pow_1 : ∀ (a b : Int), Dx.O.pow (Dx.D.int a) (Dx.D.int b) = if 0 ≤ b ∧ b ≤ 1000000 ∧ Int.natAbs a < 2 ^ 64 then Dx.wi (a ^ Int.toNat b) else Option.none := @Dx.O.pow.eq_1
@[simp] theorem q_O_pow_2 : ∀ (x x_1 : Dx.D), (∀ (a b : Int), x = Dx.D.int a → x_1 = Dx.D.int b → False) → Dx.O.pow x x_1 = Option.none := @Dx.O.pow.eq_2
@[simp] theorem q_O_xor_1 : ∀ (a b : Int), Dx.O.xor (Dx.D.int a) (Dx.D.int b) = Dx.wi (PySem.Builtin.bitXor a b) := @Dx.O.xor.eq_1
@[simp] theorem q_O_xor_2 : ∀ (x x_1 : Dx.D), (∀ (a b : Int), x = Dx.D.int a → x_1 = Dx.D.int b → False) → Dx.O.xor x x_1 = Option.none := @Dx.O.xor.eq_2
@[simp] theorem q_O_lt_1 : ∀ (a b : Int), Dx.O.lt (Dx.D.int a) (Dx.D.int b) = Dx.wb (Decidable.decide (a < b)) := @Dx.O.lt.eq_1
@[simp] theorem q_O_lt_2 : ∀ (x x_1 : Dx.D), (∀ (a b : Int), x = Dx.D.int a → x_1 = Dx.D.int b → False) → Dx.O.lt x x_1 = if Dx.D.plain x = Bool.true ∧ Dx.D.plain x_1 = Bool.true ∧ PySem.W.alike (Dx.D.py x) (Dx.D.py x_1) = Bool.true ∧ PySem.PyData.depth (Dx.D.py x) ≤ 60 ∧ Dx.isNon x = Bool.false then Dx.wb (PySem.W.dataLt (Dx.D.py x) (Dx.D.py x_1)) else Option.none := @Dx.O.lt.eq_2
@[simp] theorem q_O_le_1 : ∀ (a b : Int), Dx.O.le (Dx.D.int a) (Dx.D.int b) = Dx.wb (Decidable.decide (a ≤ b)) := @Dx.O.le.eq_1
@[simp] theorem q_O_le_2 : ∀ (x x_1 : Dx.D), (∀ (a b : Int), x = Dx.D.int a → x_1 = Dx.D.int b → False) → Dx.O.le x x_1 = Option.none := @Dx.O.le.eq_2
@[simp] theorem q_O_gt_1 : ∀ (a b : Int), Dx.O.gt (Dx.D.int a) (Dx.D.int b) = Dx.wb (Decidable.decide (b < a)) := @Dx.O.gt.eq_1
@[simp] theorem q_O_gt_2 : ∀ (x x_1 : Dx.D), (∀ (a b : Int), x = Dx.D.int a → x_1 = Dx.D.int b → False) → Dx.O.gt x x_1 = Option.none := @Dx.O.gt.eq_2
@[simp] theorem q_O_ge_1 : ∀ (a b : Int), Dx.O.ge (Dx.D.int a) (Dx.D.int b) = Dx.wb (Decidable.decide (b ≤ a)) := @Dx.O.ge.eq_1
@[simp] theorem q_O_ge_2 : ∀ (x x_1 : Dx.D), (∀ (a b : Int), x = Dx.D.int a → x_1 = Dx.D.int b → False) → Dx.O.ge x x_1 = Option.none := @Dx.O.ge.eq_2
@[simp] theorem q_O_isN_1 : ∀ (x : Dx.D), Dx.O.isN x Dx.D.non = Dx.wb (Dx.isNon x) := @Dx.O.isN.eq_1
@[simp] theorem q_O_isN_2 : ∀ (x x_1 : Dx.D), (x_1 = Dx.D.non → False) → Dx.O.isN x x_1 = Option.none := @Dx.O.isN.eq_2
@[simp] theorem q_O_notN_1 : ∀ (x : Dx.D), Dx.O.notN x Dx.D.non = Dx.wb !Dx.isNon x := @Dx.O.notN.eq_1
@[simp] theorem q_O_notN_2 : ∀ (x x_1 : Dx.D), (x_1 = Dx.D.non → False) → Dx.O.notN x x_1 = Option.none := @Dx.O.notN.eq_2
@[simp] theorem q_O_neg_1 : ∀ (a : Int), Dx.O.neg (Dx.D.int a) = Dx.wi (-a) := @Dx.O.neg.eq_1
@[simp] theorem q_O_neg_2 : ∀ (x : Dx.D), (∀ (a : Int), x = Dx.D.int a → False) → Dx.O.neg x = Option.none := @Dx.O.neg.eq_2
@[simp] theorem q_D_tyc_1 : Dx.D.tyc Dx.D.non = Option.some Dx.Ty.non := @Dx.D.tyc.eq_1
@[simp] theorem q_D_tyc_2 : ∀ (b : Bool), Dx.D.tyc (Dx.D.bl b) = Option.some Dx.Ty.bl := @Dx.D.tyc.eq_2
@[simp] theorem q_D_tyc_3 : ∀ (i : Int), Dx.D.tyc (Dx.D.int i) = Option.some Dx.Ty.int := @Dx.D.tyc.eq_3
@[simp] theorem q_D_tyc_4 : ∀ (s : PySem.Str), Dx.D.tyc (Dx.D.str s) = Option.some Dx.Ty.str := @Dx.D.tyc.eq_4
@[simp] theorem q_D_tyc_5 : ∀ (ds : List Dx.D), Dx.D.tyc (Dx.D.lst ds) = Option.some Dx.Ty.lst := @Dx.D.tyc.eq_5
@[simp] theorem q_D_tyc_6 : ∀ (ds : List Dx.D), Dx.D.tyc (Dx.D.scr ds) = Option.some Dx.Ty.lst := @Dx.D.tyc.eq_6
@[simp] theorem q_D_tyc_7 : ∀ (ds : List Dx.D), Dx.D.tyc (Dx.D.tup ds) = Option.some Dx.Ty.tup := @Dx.D.tyc.eq_7
@[simp] theorem q_D_tyc_8 : ∀ (b : Bool) (kvs : List (Dx.D × Dx.D)), Dx.D.tyc (Dx.D.dct b kvs) = Option.some Dx.Ty.dct := @Dx.D.tyc.eq_8
@[simp] theorem q_D_tyc_9 : ∀ (x : Dx.D), (x = Dx.D.non → False) → (∀ (b : Bool), x = Dx.D.bl b → False) → (∀ (i : Int), x = Dx.D.int i → False) → (∀ (s : PySem.Str), x = Dx.D.str s → False) → (∀ (ds : List Dx.D), x = Dx.D.lst ds → False) → (∀ (ds : List Dx.D), x = Dx.D.scr ds → False) → (∀ (ds : List Dx.D), x = Dx.D.tup ds → False) → (∀ (b : Bool) (kvs : List (Dx.D × Dx.D)), x = Dx.D.dct b kvs → False) → Dx.D.tyc x = Option.none := @Dx.D.tyc.eq_9
@[simp] theorem q_isaB_1 : Dx.isaB Dx.Ty.bl Dx.Ty.int = Bool.true := @Dx.isaB.eq_1
@[simp] theorem q_isaB_2 : ∀ (x x_1 : Dx.Ty), (x = Dx.Ty.bl → x_1 = Dx.Ty.int → False) → Dx.isaB x x_1 = Decidable.decide (x = x_1) := @Dx.isaB.eq_2
@[simp] theorem q_itemsOf_1 : ∀ (ds : List Dx.D), Dx.itemsOf (Dx.D.lst ds) = Option.some ds := @Dx.itemsOf.eq_1
@[simp] theorem q_itemsOf_2 : ∀ (ds : List Dx.D), Dx.itemsOf (Dx.D.tup ds) = Option.some ds := @Dx.itemsOf.eq_2
@[simp] theorem q_itemsOf_3 : ∀ (ds : List Dx.D), Dx.itemsOf (Dx.D.scr ds) = Option.some ds := @Dx.itemsOf.eq_3
@[simp] theorem q_itemsOf_4 : ∀ (s : PySem.Str), Dx.itemsOf (Dx.D.str s) = Option.some (List.map (fun (c : Nat) ↦ Dx.D.str { cps := #[c] }) (Array.toList (PySem.Str.cps s))) := @Dx.itemsOf.eq_4
@[simp] theorem q_itemsOf_5 : ∀ (x : Dx.D), (∀ (ds : List Dx.D), x = Dx.D.lst ds → False) → (∀ (ds : List Dx.D), x = Dx.D.tup ds → False) → (∀ (ds : List Dx.D), x = Dx.D.scr ds → False) → (∀ (s : PySem.Str), x = Dx.D.str s → False) → Dx.itemsOf x = Option.none := @Dx.itemsOf.eq_5
@[simp] theorem q_O_inn_1 : ∀ (c z : PySem.Str),
  Dx.O.inn (Dx.D.str c) (Dx.D.str z) =
    match Array.toList (PySem.Str.cps c) with
    | [k] => Dx.wb (Decidable.decide (k ∈ Array.toList (PySem.Str.cps z)))
    | x => Option.none := @Dx.O.inn.eq_1
@[simp] theorem q_O_inn_2 : ∀ (x : Dx.D) (ds : List Dx.D),
  Dx.O.inn x (Dx.D.lst ds) =
    match Dx.D.flat x, Dx.D.flats ds with
    | Option.some v, Option.some vs => Dx.wb (L2.inV v vs)
    | x, x_1 => Option.none := @Dx.O.inn.eq_2
@[simp] theorem q_O_inn_3 : ∀ (x : Dx.D) (ds : List Dx.D),
  Dx.O.inn x (Dx.D.tup ds) =
    match Dx.D.flat x, Dx.D.flats ds with
    | Option.some v, Option.some vs => Dx.wb (L2.inV v vs)
    | x, x_1 => Option.none := @Dx.O.inn.eq_3
@[simp] theorem q_O_inn_4 : ∀ (x x_1 : Dx.D), (∀ (ds : List Dx.D), x_1 = Dx.D.lst ds → False) → (∀ (ds : List Dx.D), x_1 = Dx.D.tup ds → False) → (∀ (c z : PySem.Str), x = Dx.D.str c → x_1 = Dx.D.str z → False) → Dx.O.inn x x_1 = Option.none := @Dx.O.inn.eq_4
@[simp] theorem q_O_nin_1 : ∀ (c z : PySem.Str),
  Dx.O.nin (Dx.D.str c) (Dx.D.str z) =
    match Array.toList (PySem.Str.cps c) with
    | [k] => Dx.wb !Decidable.decide (k ∈ Array.toList (PySem.Str.cps z))
    | x => Option.none := @Dx.O.nin.eq_1
@[simp] theorem q_O_nin_2 : ∀ (x : Dx.D) (ds : List Dx.D),
  Dx.O.nin x (Dx.D.lst ds) =
    match Dx.D.flat x, Dx.D.flats ds with
    | Option.some v, Option.some vs => Dx.wb !L2.inV v vs
    | x, x_1 => Option.none := @Dx.O.nin.eq_2
@[simp] theorem q_O_nin_3 : ∀ (x : Dx.D) (ds : List Dx.D),
  Dx.O.nin x (Dx.D.tup ds) =
    match Dx.D.flat x, Dx.D.flats ds with
    | Option.some v, Option.some vs => Dx.wb !L2.inV v vs
    | x, x_1 => Option.none := @Dx.O.nin.eq_3
@[simp] theorem q_O_nin_4 : ∀ (x x_1 : Dx.D), (∀ (ds : List Dx.D), x_1 = Dx.D.lst ds → False) → (∀ (ds : List Dx.D), x_1 = Dx.D.tup ds → False) → (∀ (c z : PySem.Str), x = Dx.D.str c → x_1 = Dx.D.str z → False) → Dx.O.nin x x_1 = Option.none := @Dx.O.nin.eq_4
@[simp] theorem q_O_isB_1 : ∀ (b x_1 : Bool), Dx.O.isB b (Dx.D.bl x_1) = Dx.wb (Decidable.decide (x_1 = b)) := @Dx.O.isB.eq_1
@[simp] theorem q_O_isB_2 : ∀ (b : Bool) (c : PySem.Str) (fs : List (PySem.Str × Dx.D)), Dx.O.isB b (Dx.D.ins c fs) = Option.none := @Dx.O.isB.eq_2
@[simp] theorem q_O_isB_3 : ∀ (b : Bool) (n : String), Dx.O.isB b (Dx.D.ty n) = Option.none := @Dx.O.isB.eq_3
@[simp] theorem q_O_isB_4 : ∀ (b : Bool) (x : Dx.D), (∀ (x_1 : Bool), x = Dx.D.bl x_1 → False) → (∀ (c : PySem.Str) (fs : List (PySem.Str × Dx.D)), x = Dx.D.ins c fs → False) → (∀ (n : String), x = Dx.D.ty n → False) → Dx.O.isB b x = Dx.wb Bool.false := @Dx.O.isB.eq_4
@[simp] theorem q_O_ix_1 : ∀ (ds : List Dx.D) (i : Int), Dx.O.ix (Dx.D.lst ds) (Dx.D.int i) = Option.map Dx.W.t (L2.atI ds i) := @Dx.O.ix.eq_1
@[simp] theorem q_O_ix_2 : ∀ (ds : List Dx.D) (i : Int), Dx.O.ix (Dx.D.tup ds) (Dx.D.int i) = Option.map Dx.W.t (L2.atI ds i) := @Dx.O.ix.eq_2
@[simp] theorem q_O_ix_3 : ∀ (ds : List Dx.D) (i : Int), Dx.O.ix (Dx.D.scr ds) (Dx.D.int i) = Option.map Dx.W.t (L2.atI ds i) := @Dx.O.ix.eq_3
@[simp] theorem q_O_ix_4 : ∀ (z : PySem.Str) (i : Int), Dx.O.ix (Dx.D.str z) (Dx.D.int i) = if PySem.Str.length z ≤ 16000000 then Option.map (fun (c : Nat) ↦ Dx.W.t (Dx.D.str { cps := #[c] })) (L2.atI (Array.toList (PySem.Str.cps z)) i) else Option.none := @Dx.O.ix.eq_4
@[simp] theorem q_O_ix_5 : ∀ (x x_1 : Dx.D), (∀ (ds : List Dx.D) (i : Int), x = Dx.D.lst ds → x_1 = Dx.D.int i → False) → (∀ (ds : List Dx.D) (i : Int), x = Dx.D.tup ds → x_1 = Dx.D.int i → False) → (∀ (ds : List Dx.D) (i : Int), x = Dx.D.scr ds → x_1 = Dx.D.int i → False) → (∀ (z : PySem.Str) (i : Int), x = Dx.D.str z → x_1 = Dx.D.int i → False) → Dx.O.ix x x_1 = Option.none := @Dx.O.ix.eq_5
@[simp] theorem q_O_sl_1 : ∀ (lo hi : Option Int) (ds : List Dx.D), Dx.O.sl lo hi (Dx.D.lst ds) = Option.some (Dx.W.f (Dx.cutD ds lo hi)) := @Dx.O.sl.eq_1
@[simp] theorem q_O_sl_2 : ∀ (lo hi : Option Int) (ds : List Dx.D), Dx.O.sl lo hi (Dx.D.scr ds) = Option.some (Dx.W.f (Dx.cutD ds lo hi)) := @Dx.O.sl.eq_2
@[simp] theorem q_O_sl_3 : ∀ (lo hi : Option Int) (z : PySem.Str), Dx.O.sl lo hi (Dx.D.str z) = if PySem.Str.length z ≤ 16000000 then Dx.ws (L2.cutS z lo hi) else Option.none := @Dx.O.sl.eq_3
@[simp] theorem q_O_sl_4 : ∀ (lo hi : Option Int) (ds : List Dx.D), Dx.O.sl lo hi (Dx.D.tup ds) = if HT.sIx (List.length ds) 0 lo = 0 ∧ HT.sIx (List.length ds) (List.length ds) hi = List.length ds then Option.none else Option.some (Dx.W.t (Dx.D.tup (Dx.cutD ds lo hi))) := @Dx.O.sl.eq_4
@[simp] theorem q_O_sl_5 : ∀ (lo hi : Option Int) (x : Dx.D), (∀ (ds : List Dx.D), x = Dx.D.lst ds → False) → (∀ (ds : List Dx.D), x = Dx.D.scr ds → False) → (∀ (z : PySem.Str), x = Dx.D.str z → False) → (∀ (ds : List Dx.D), x = Dx.D.tup ds → False) → Dx.O.sl lo hi x = Option.none := @Dx.O.sl.eq_5
@[simp] theorem q_O_rev_1 : ∀ (z : PySem.Str), Dx.O.rev (Dx.D.str z) = if PySem.Str.length z ≤ 16000000 then Dx.ws { cps := List.toArray (List.reverse (Array.toList (PySem.Str.cps z))) } else Option.none := @Dx.O.rev.eq_1
@[simp] theorem q_O_rev_2 : ∀ (x : Dx.D), (∀ (z : PySem.Str), x = Dx.D.str z → False) → Dx.O.rev x = Option.none := @Dx.O.rev.eq_2
@[simp] theorem q_O_revL_1 : ∀ (ds : List Dx.D), Dx.O.revL (Dx.D.lst ds) = Option.some (Dx.W.f (List.reverse ds)) := @Dx.O.revL.eq_1
@[simp] theorem q_O_revL_2 : ∀ (x : Dx.D), (∀ (ds : List Dx.D), x = Dx.D.lst ds → False) → Dx.O.revL x = Option.none := @Dx.O.revL.eq_2
@[simp] theorem q_O_len_1 : ∀ (z : PySem.Str), Dx.O.len [Dx.D.str z] = if PySem.Str.length z ≤ 16000000 then Dx.wi ↑(PySem.Str.length z) else Option.none := @Dx.O.len.eq_1
@[simp] theorem q_O_len_2 : ∀ (ds : List Dx.D), Dx.O.len [Dx.D.lst ds] = Dx.wi ↑(List.length ds) := @Dx.O.len.eq_2
@[simp] theorem q_O_len_3 : ∀ (ds : List Dx.D), Dx.O.len [Dx.D.tup ds] = Dx.wi ↑(List.length ds) := @Dx.O.len.eq_3
@[simp] theorem q_O_len_4 : ∀ (ds : List Dx.D), Dx.O.len [Dx.D.scr ds] = Dx.wi ↑(List.length ds) := @Dx.O.len.eq_4
@[simp] theorem q_O_len_5 : ∀ (x : List Dx.D), (∀ (z : PySem.Str), x = [Dx.D.str z] → False) → (∀ (ds : List Dx.D), x = [Dx.D.lst ds] → False) → (∀ (ds : List Dx.D), x = [Dx.D.tup ds] → False) → (∀ (ds : List Dx.D), x = [Dx.D.scr ds] → False) → Dx.O.len x = Option.none := @Dx.O.len.eq_5
@[simp] theorem q_O_max_1 : ∀ (i j : Int), Dx.O.max [Dx.D.int i, Dx.D.int j] = Dx.wi (Max.max i j) := @Dx.O.max.eq_1
@[simp] theorem q_O_max_2 : ∀ (ds : List Dx.D), Dx.O.max [Dx.D.lst ds] = Dx.O.hdI Dx.O.maxL (Dx.intsOf ds) := @Dx.O.max.eq_2
@[simp] theorem q_O_max_3 : ∀ (x : List Dx.D), (∀ (i j : Int), x = [Dx.D.int i, Dx.D.int j] → False) → (∀ (ds : List Dx.D), x = [Dx.D.lst ds] → False) → Dx.O.max x = Option.none := @Dx.O.max.eq_3
@[simp] theorem q_O_min_1 : ∀ (i j : Int), Dx.O.min [Dx.D.int i, Dx.D.int j] = Dx.wi (Min.min i j) := @Dx.O.min.eq_1
@[simp] theorem q_O_min_2 : ∀ (ds : List Dx.D), Dx.O.min [Dx.D.lst ds] = Dx.O.hdI Dx.O.minL (Dx.intsOf ds) := @Dx.O.min.eq_2
@[simp] theorem q_O_min_3 : ∀ (x : List Dx.D), (∀ (i j : Int), x = [Dx.D.int i, Dx.D.int j] → False) → (∀ (ds : List Dx.D), x = [Dx.D.lst ds] → False) → Dx.O.min x = Option.none := @Dx.O.min.eq_3
@[simp] theorem q_O_all_1 : ∀ (ds : List Dx.D), Dx.O.all [Dx.D.lst ds] = Option.map (fun (bs : List Bool) ↦ Dx.W.t (Dx.D.bl (List.all bs id))) (Dx.blsOf ds) := @Dx.O.all.eq_1
@[simp] theorem q_O_all_2 : ∀ (x : List Dx.D), (∀ (ds : List Dx.D), x = [Dx.D.lst ds] → False) → Dx.O.all x = Option.none := @Dx.O.all.eq_2
@[simp] theorem q_O_any_1 : ∀ (ds : List Dx.D), Dx.O.any [Dx.D.lst ds] = Option.map (fun (bs : List Bool) ↦ Dx.W.t (Dx.D.bl (List.any bs id))) (Dx.blsOf ds) := @Dx.O.any.eq_1
@[simp] theorem q_O_any_2 : ∀ (x : List Dx.D), (∀ (ds : List Dx.D), x = [Dx.D.lst ds] → False) → Dx.O.any x = Option.none := @Dx.O.any.eq_2
@[simp] theorem q_O_sum_1 : ∀ (ds : List Dx.D), Dx.O.sum [Dx.D.lst ds] = Option.map (fun (ns : List Int) ↦ Dx.W.t (Dx.D.int (List.sum ns))) (Dx.intsOf ds) := @Dx.O.sum.eq_1
@[simp] theorem q_O_sum_2 : ∀ (x : List Dx.D), (∀ (ds : List Dx.D), x = [Dx.D.lst ds] → False) → Dx.O.sum x = Option.none := @Dx.O.sum.eq_2
@[simp] theorem q_O_isa_1 : ∀ (d : Dx.D) (n : String),
  Dx.O.isa [d, Dx.D.ty n] =
    match Dx.D.tyc d, Dx.tyOf n with
    | Option.some s, Option.some t => Dx.wb (Dx.isaB s t)
    | x, x_1 => Option.none := @Dx.O.isa.eq_1
@[simp] theorem q_O_isa_2 : ∀ (d : Dx.D) (ts : List Dx.D),
  Dx.O.isa [d, Dx.D.tup ts] =
    match Dx.D.tyc d, Dx.tysOf ts with
    | Option.some s, Option.some ts => Dx.wb (List.any ts (Dx.isaB s))
    | x, x_1 => Option.none := @Dx.O.isa.eq_2
@[simp] theorem q_O_isa_3 : ∀ (x : List Dx.D), (∀ (d : Dx.D) (n : String), x = [d, Dx.D.ty n] → False) → (∀ (d : Dx.D) (ts : List Dx.D), x = [d, Dx.D.tup ts] → False) → Dx.O.isa x = Option.none := @Dx.O.isa.eq_3
@[simp] theorem q_O_int_1 : ∀ (i : Int), Dx.O.int [Dx.D.int i] = Dx.wi i := @Dx.O.int.eq_1
@[simp] theorem q_O_int_2 : ∀ (b : Bool), Dx.O.int [Dx.D.bl b] = Dx.wi (if b = Bool.true then 1 else 0) := @Dx.O.int.eq_2
@[simp] theorem q_O_int_3 : ∀ (s : PySem.Str), Dx.O.int [Dx.D.str s] = if PySem.Str.length s ≤ 640 then Option.map (fun (n : Int) ↦ Dx.W.t (Dx.D.int n)) (PySem.intText? s) else Option.none := @Dx.O.int.eq_3
@[simp] theorem q_O_int_4 : ∀ (x : List Dx.D), (∀ (i : Int), x = [Dx.D.int i] → False) → (∀ (b : Bool), x = [Dx.D.bl b] → False) → (∀ (s : PySem.Str), x = [Dx.D.str s] → False) → Dx.O.int x = Option.none := @Dx.O.int.eq_4
@[simp] theorem q_O_repr_1 : ∀ (d : Dx.D), Dx.O.repr [d] = if Dx.D.plainE d = Bool.true ∧ Dx.O.shownOk (Dx.D.py d) = Bool.true then Dx.ws (PySem.PyData.shown (Dx.D.py d)) else Option.none := @Dx.O.repr.eq_1
@[simp] theorem q_O_repr_2 : ∀ (x : List Dx.D), (∀ (d : Dx.D), x = [d] → False) → Dx.O.repr x = Option.none := @Dx.O.repr.eq_2
@[simp] theorem q_O_list_1 : ∀ (ds : List Dx.D), Dx.O.list [Dx.D.lst ds] = Option.some (Dx.W.f ds) := @Dx.O.list.eq_1
@[simp] theorem q_O_list_2 : ∀ (ds : List Dx.D), Dx.O.list [Dx.D.tup ds] = Option.some (Dx.W.f ds) := @Dx.O.list.eq_2
@[simp] theorem q_O_list_3 : ∀ (ds : List Dx.D), Dx.O.list [Dx.D.scr ds] = Option.some (Dx.W.f ds) := @Dx.O.list.eq_3
@[simp] theorem q_O_list_4 : ∀ (z : PySem.Str), Dx.O.list [Dx.D.str z] = if PySem.Str.length z ≤ 1000000 then Option.some (Dx.W.f (List.map (fun (c : Nat) ↦ Dx.D.str { cps := #[c] }) (Array.toList (PySem.Str.cps z)))) else Option.none := @Dx.O.list.eq_4
@[simp] theorem q_O_list_5 : ∀ (x : List Dx.D), (∀ (ds : List Dx.D), x = [Dx.D.lst ds] → False) → (∀ (ds : List Dx.D), x = [Dx.D.tup ds] → False) → (∀ (ds : List Dx.D), x = [Dx.D.scr ds] → False) → (∀ (z : PySem.Str), x = [Dx.D.str z] → False) → Dx.O.list x = Option.none := @Dx.O.list.eq_5
@[simp] theorem q_O_tuple_1 : ∀ (ds : List Dx.D), Dx.O.tuple [Dx.D.lst ds] = Option.some (Dx.W.t (Dx.D.tup ds)) := @Dx.O.tuple.eq_1
@[simp] theorem q_O_tuple_2 : ∀ (ds : List Dx.D), Dx.O.tuple [Dx.D.scr ds] = Option.some (Dx.W.t (Dx.D.tup ds)) := @Dx.O.tuple.eq_2
@[simp] theorem q_O_tuple_3 : ∀ (ds : List Dx.D), Dx.O.tuple [Dx.D.tup ds] = Option.some (Dx.W.t (Dx.D.tup ds)) := @Dx.O.tuple.eq_3
@[simp] theorem q_O_tuple_4 : ∀ (x : List Dx.D), (∀ (ds : List Dx.D), x = [Dx.D.lst ds] → False) → (∀ (ds : List Dx.D), x = [Dx.D.scr ds] → False) → (∀ (ds : List Dx.D), x = [Dx.D.tup ds] → False) → Dx.O.tuple x = Option.none := @Dx.O.tuple.eq_4
@[simp] theorem q_O_swapcase_1 : ∀ (x : List Dx.D) (z : PySem.Str), Dx.O.swapcase (Dx.D.str z) x = if PySem.Str.length z ≤ 5592405 then Dx.ws (PySem.Txt.swapcase z) else Option.none := @Dx.O.swapcase.eq_1
@[simp] theorem q_O_swapcase_2 : ∀ (x : Dx.D) (x_1 : List Dx.D), (∀ (z : PySem.Str), x = Dx.D.str z → False) → Dx.O.swapcase x x_1 = Option.none := @Dx.O.swapcase.eq_2
@[simp] theorem q_O_upper_1 : ∀ (x : List Dx.D) (z : PySem.Str), Dx.O.upper (Dx.D.str z) x = if PySem.Str.length z ≤ 5592405 then Dx.ws (PySem.Txt.upper z) else Option.none := @Dx.O.upper.eq_1
@[simp] theorem q_O_upper_2 : ∀ (x : Dx.D) (x_1 : List Dx.D), (∀ (z : PySem.Str), x = Dx.D.str z → False) → Dx.O.upper x x_1 = Option.none := @Dx.O.upper.eq_2
@[simp] theorem q_O_lower_1 : ∀ (x : List Dx.D) (z : PySem.Str), Dx.O.lower (Dx.D.str z) x = if PySem.Str.length z ≤ 5592405 then Dx.ws (PySem.Txt.lower z) else Option.none := @Dx.O.lower.eq_1
@[simp] theorem q_O_lower_2 : ∀ (x : Dx.D) (x_1 : List Dx.D), (∀ (z : PySem.Str), x = Dx.D.str z → False) → Dx.O.lower x x_1 = Option.none := @Dx.O.lower.eq_2
@[simp] theorem q_O_join_1 : ∀ (z : PySem.Str) (ds : List Dx.D),
  Dx.O.join (Dx.D.str z) [Dx.D.lst ds] =
    match Dx.strsOf ds with
    | Option.some l => if List.sum (List.map (fun (x : PySem.Str) ↦ PySem.Str.length x) l) + List.length l * PySem.Str.length z ≤ 16000000 then Dx.ws (PySem.Txt.join z l) else Option.none
    | Option.none => Option.none := @Dx.O.join.eq_1
@[simp] theorem q_O_join_2 : ∀ (x : Dx.D) (x_1 : List Dx.D), (∀ (z : PySem.Str) (ds : List Dx.D), x = Dx.D.str z → x_1 = [Dx.D.lst ds] → False) → Dx.O.join x x_1 = Option.none := @Dx.O.join.eq_2
@[simp] theorem q_O_index_1 : ∀ (z y : PySem.Str),
  Dx.O.index (Dx.D.str z) [Dx.D.str y] =
    match PySem.Builtin.Str.occurrences z y 0 (PySem.Str.length z) 1 with
    | i :: tail => Dx.wi ↑i
    | [] => Option.none := @Dx.O.index.eq_1
@[simp] theorem q_O_index_2 : ∀ (x : Dx.D) (x_1 : List Dx.D), (∀ (z y : PySem.Str), x = Dx.D.str z → x_1 = [Dx.D.str y] → False) → Dx.O.index x x_1 = Option.none := @Dx.O.index.eq_2
@[simp] theorem q_O_isBl_1 : ∀ (a b : Bool), Dx.O.isBl (Dx.D.bl a) (Dx.D.bl b) = Dx.wb (Decidable.decide (a = b)) := @Dx.O.isBl.eq_1
@[simp] theorem q_O_isBl_2 : ∀ (x x_1 : Dx.D), (∀ (a b : Bool), x = Dx.D.bl a → x_1 = Dx.D.bl b → False) → Dx.O.isBl x x_1 = Option.none := @Dx.O.isBl.eq_2
@[simp] theorem q_O_notBl_1 : ∀ (a b : Bool), Dx.O.notBl (Dx.D.bl a) (Dx.D.bl b) = Dx.wb !Decidable.decide (a = b) := @Dx.O.notBl.eq_1
@[simp] theorem q_O_notBl_2 : ∀ (x x_1 : Dx.D), (∀ (a b : Bool), x = Dx.D.bl a → x_1 = Dx.D.bl b → False) → Dx.O.notBl x x_1 = Option.none := @Dx.O.notBl.eq_2
@[simp] theorem q_O_addI_1 : ∀ (a b : Int), Dx.O.addI (Dx.D.int a) (Dx.D.int b) = Dx.wi (a + b) := @Dx.O.addI.eq_1
@[simp] theorem q_O_addI_2 : ∀ (x x_1 : Dx.D), (∀ (a b : Int), x = Dx.D.int a → x_1 = Dx.D.int b → False) → Dx.O.addI x x_1 = Option.none := @Dx.O.addI.eq_2
@[simp] theorem q_E_partR_1 : ∀ (x : Dx.Env) (i : Int), Dx.E.partR (Dx.W.t (Dx.D.int i)) x = Dx.Z.ok (Option.some i) x := @Dx.E.partR.eq_1
@[simp] theorem q_E_partR_2 : ∀ (x : Dx.W) (x_1 : Dx.Env), (∀ (i : Int), x = Dx.W.t (Dx.D.int i) → False) → Dx.E.partR x x_1 = Dx.Z.bad := @Dx.E.partR.eq_2
@[simp] theorem q_E_revR_1 : ∀ (x : Dx.Env) (z : PySem.Str), Dx.E.revR (Option.some (Dx.D.str z)) x = Dx.toW (Dx.O.rev (Dx.D.str z)) x := @Dx.E.revR.eq_1
@[simp] theorem q_E_revR_2 : ∀ (x : Dx.Env) (ds : List Dx.D), Dx.E.revR (Option.some (Dx.D.lst ds)) x = Dx.Z.ok (Dx.W.f (List.reverse ds)) x := @Dx.E.revR.eq_2
@[simp] theorem q_E_revR_3 : ∀ (x : Option Dx.D) (x_1 : Dx.Env), (∀ (z : PySem.Str), x = Option.some (Dx.D.str z) → False) → (∀ (ds : List Dx.D), x = Option.some (Dx.D.lst ds) → False) → Dx.E.revR x x_1 = Dx.Z.bad := @Dx.E.revR.eq_3
@[simp] theorem q_E_m0R_1 : ∀ (f : Dx.D → List Dx.D → Option Dx.W) (x : Dx.Env) (z : PySem.Str), Dx.E.m0R f (Dx.W.t (Dx.D.str z)) x = Dx.toW (f (Dx.D.str z) []) x := @Dx.E.m0R.eq_1
@[simp] theorem q_E_m0R_2 : ∀ (f : Dx.D → List Dx.D → Option Dx.W) (x : Dx.W) (x_1 : Dx.Env), (∀ (z : PySem.Str), x = Dx.W.t (Dx.D.str z) → False) → Dx.E.m0R f x x_1 = Dx.Z.bad := @Dx.E.m0R.eq_2
@[simp] theorem q_E_m1S_1 : ∀ (f : Dx.D → List Dx.D → Option Dx.W) (z : PySem.Str) (x : Dx.Env) (d : Dx.D), Dx.E.m1S f z (Option.some d) x = Dx.toW (f (Dx.D.str z) [d]) x := @Dx.E.m1S.eq_1
@[simp] theorem q_E_m1S_2 : ∀ (f : Dx.D → List Dx.D → Option Dx.W) (z : PySem.Str) (x : Dx.Env), Dx.E.m1S f z Option.none x = Dx.Z.bad := @Dx.E.m1S.eq_2
@[simp] theorem q_E_m1R_1 : ∀ (f : Dx.D → List Dx.D → Option Dx.W) (e : Dx.EM) (x : Dx.Env) (z : PySem.Str), Dx.E.m1R f e (Dx.W.t (Dx.D.str z)) x = Dx.Z.bind (e x) fun (w2 : Dx.W) (ρ2 : Dx.Env) ↦ Dx.E.m1S f z (Dx.pk (Dx.W.st w2) ρ2) ρ2 := @Dx.E.m1R.eq_1
@[simp] theorem q_E_m1R_2 : ∀ (f : Dx.D → List Dx.D → Option Dx.W) (e : Dx.EM) (x : Dx.W) (x_1 : Dx.Env), (∀ (z : PySem.Str), x = Dx.W.t (Dx.D.str z) → False) → Dx.E.m1R f e x x_1 = Dx.Z.bad := @Dx.E.m1R.eq_2
@[simp] theorem q_I_enR_1 : ∀ (x : Dx.Env) (zs : List Dx.D), Dx.I.enR [Dx.D.lst zs] x = Dx.Z.ok (Dx.I.enD zs) x := @Dx.I.enR.eq_1
@[simp] theorem q_I_enR_2 : ∀ (x : Dx.Env) (zs : List Dx.D), Dx.I.enR [Dx.D.tup zs] x = Dx.Z.ok (Dx.I.enD zs) x := @Dx.I.enR.eq_2
@[simp] theorem q_I_enR_3 : ∀ (x : Dx.Env) (zs : List Dx.D), Dx.I.enR [Dx.D.scr zs] x = Dx.Z.ok (Dx.I.enD zs) x := @Dx.I.enR.eq_3
@[simp] theorem q_I_enR_4 : ∀ (x : List Dx.D) (x_1 : Dx.Env), (∀ (zs : List Dx.D), x = [Dx.D.lst zs] → False) → (∀ (zs : List Dx.D), x = [Dx.D.tup zs] → False) → (∀ (zs : List Dx.D), x = [Dx.D.scr zs] → False) → Dx.I.enR x x_1 = Dx.Z.bad := @Dx.I.enR.eq_4
@[simp] theorem q_I_ziR_1 : ∀ (x : Dx.Env) (xs ys : List Dx.D), Dx.I.ziR [Dx.D.lst xs, Dx.D.lst ys] x = Dx.Z.ok (Dx.I.ziD xs ys) x := @Dx.I.ziR.eq_1
@[simp] theorem q_I_ziR_2 : ∀ (x : List Dx.D) (x_1 : Dx.Env), (∀ (xs ys : List Dx.D), x = [Dx.D.lst xs, Dx.D.lst ys] → False) → Dx.I.ziR x x_1 = Dx.Z.bad := @Dx.I.ziR.eq_2
@[simp] theorem q_I_r1R_1 : ∀ (x : Dx.Env) (j : Int), Dx.I.r1R [Dx.D.int j] x = if -2 ^ 62 ≤ j ∧ j < 2 ^ 62 then Dx.Z.ok (Dx.I.upD 0 (Int.toNat j)) x else Dx.Z.bad := @Dx.I.r1R.eq_1
@[simp] theorem q_I_r1R_2 : ∀ (x : List Dx.D) (x_1 : Dx.Env), (∀ (j : Int), x = [Dx.D.int j] → False) → Dx.I.r1R x x_1 = Dx.Z.bad := @Dx.I.r1R.eq_2
@[simp] theorem q_I_r2R_1 : ∀ (x : Dx.Env) (i j : Int), Dx.I.r2R [Dx.D.int i, Dx.D.int j] x = if -2 ^ 62 ≤ i ∧ i < 2 ^ 62 ∧ -2 ^ 62 ≤ j ∧ j < 2 ^ 62 then Dx.Z.ok (Dx.I.upD i (Int.toNat (j - i))) x else Dx.Z.bad := @Dx.I.r2R.eq_1
@[simp] theorem q_I_r2R_2 : ∀ (x : List Dx.D) (x_1 : Dx.Env), (∀ (i j : Int), x = [Dx.D.int i, Dx.D.int j] → False) → Dx.I.r2R x x_1 = Dx.Z.bad := @Dx.I.r2R.eq_2
@[simp] theorem q_I_r3R_1 : ∀ (x : Dx.Env) (i j : Int), Dx.I.r3R [Dx.D.int i, Dx.D.int j, Dx.D.int (-1)] x = if -2 ^ 62 ≤ i ∧ i < 2 ^ 62 ∧ -2 ^ 62 ≤ j ∧ j < 2 ^ 62 then Dx.Z.ok (Dx.I.dnD i (Int.toNat (i - j))) x else Dx.Z.bad := @Dx.I.r3R.eq_1
@[simp] theorem q_I_r3R_2 : ∀ (x : List Dx.D) (x_1 : Dx.Env), (∀ (i j : Int), x = [Dx.D.int i, Dx.D.int j, Dx.D.int (-1)] → False) → Dx.I.r3R x x_1 = Dx.Z.bad := @Dx.I.r3R.eq_2
@[simp] theorem q_parR_1 : ∀ (i j : Nat) (x : Dx.Env) (d e : Dx.D), Dx.parR i j [d, e] x = Dx.Z.ok Dx.Sig.nx (List.set (List.set x i (Dx.Slot.tr d)) j (Dx.Slot.tr e)) := @Dx.parR.eq_1
@[simp] theorem q_parR_2 : ∀ (i j : Nat) (x : List Dx.D) (x_1 : Dx.Env), (∀ (d e : Dx.D), x = [d, e] → False) → Dx.parR i j x x_1 = Dx.Z.bad := @Dx.parR.eq_2
@[simp] theorem q_G_star_1 : ∀ (n i : Nat) (gs : Dx.GMs) (x : Dx.Env) (ds : List Dx.D), Dx.G.star n i gs (Dx.D.tup ds) x = if n ≤ List.length ds + 1 then gs (List.take i ds ++ [Dx.D.lst (List.take (List.length ds + 1 - n) (List.drop i ds))] ++ List.drop (List.length ds + 1 - n) (List.drop i ds)) x else Option.none := @Dx.G.star.eq_1
@[simp] theorem q_G_star_2 : ∀ (n i : Nat) (gs : Dx.GMs) (x : Dx.Env) (ds : List Dx.D), Dx.G.star n i gs (Dx.D.lst ds) x = if n ≤ List.length ds + 1 then gs (List.take i ds ++ [Dx.D.lst (List.take (List.length ds + 1 - n) (List.drop i ds))] ++ List.drop (List.length ds + 1 - n) (List.drop i ds)) x else Option.none := @Dx.G.star.eq_2
@[simp] theorem q_G_star_3 : ∀ (n i : Nat) (gs : Dx.GMs) (x : Dx.D) (x_1 : Dx.Env), (∀ (ds : List Dx.D), x = Dx.D.tup ds → False) → (∀ (ds : List Dx.D), x = Dx.D.lst ds → False) → Dx.G.star n i gs x x_1 = Option.none := @Dx.G.star.eq_3
@[simp] theorem q_E_caF_1 : ∀ (m : List Dx.D → List Dx.D → Dx.Fr) (x : Dx.Env) (ds : List Dx.D), Dx.E.caF m (Dx.W.f ds) x = Dx.E.frW (m ds []) x := @Dx.E.caF.eq_1
@[simp] theorem q_E_caF_2 : ∀ (m : List Dx.D → List Dx.D → Dx.Fr) (x : Dx.W) (x_1 : Dx.Env), (∀ (ds : List Dx.D), x = Dx.W.f ds → False) → Dx.E.caF m x x_1 = Dx.Z.bad := @Dx.E.caF.eq_2
@[simp] theorem q_O_hdI_1 : ∀ (f : Int → List Int → Int) (i : Int) (is : List Int), Dx.O.hdI f (Option.some (i :: is)) = Dx.wi (f i is) := @Dx.O.hdI.eq_1
@[simp] theorem q_O_hdI_2 : ∀ (f : Int → List Int → Int) (x : Option (List Int)), (∀ (i : Int) (is : List Int), x = Option.some (i :: is) → False) → Dx.O.hdI f x = Option.none := @Dx.O.hdI.eq_2
@[simp] theorem q_clS_1 : ∀ (x : Dx.Env), Dx.clS Dx.Sig.nx x = Dx.Z.ok Dx.Sig.nx x := @Dx.clS.eq_1
@[simp] theorem q_clS_2 : ∀ (x : Dx.Env), Dx.clS Dx.Sig.bk x = Dx.Z.ok Dx.Sig.bk x := @Dx.clS.eq_2
@[simp] theorem q_clS_3 : ∀ (x : Dx.Env), Dx.clS Dx.Sig.ct x = Dx.Z.ok Dx.Sig.ct x := @Dx.clS.eq_3
@[simp] theorem q_clS_4 : ∀ (x : Dx.Env) (d : Dx.D), Dx.clS (Dx.Sig.rt (Dx.W.t d)) x = Dx.Z.ok (Dx.Sig.rt (Dx.W.t d)) x := @Dx.clS.eq_4
@[simp] theorem q_clS_5 : ∀ (x : Dx.Env) (ds : List Dx.D), Dx.clS (Dx.Sig.rt (Dx.W.f ds)) x = Dx.Z.ok (Dx.Sig.rt (Dx.W.f ds)) x := @Dx.clS.eq_5
@[simp] theorem q_clS_6 : ∀ (x : Dx.Env) (b : Bool) (es : List (Dx.D × Dx.D)), Dx.clS (Dx.Sig.rt (Dx.W.g b es)) x = Dx.Z.ok (Dx.Sig.rt (Dx.W.g b es)) x := @Dx.clS.eq_6
@[simp] theorem q_clS_7 : ∀ (x : Dx.Env) (t : Dx.Tr), Dx.clS (Dx.Sig.rt (Dx.W.u t)) x = Dx.Z.ok (Dx.Sig.rt (Dx.W.u t)) x := @Dx.clS.eq_7
@[simp] theorem q_clS_8 : ∀ (x : Dx.Env) (i : Nat), Dx.clS (Dx.Sig.rt (Dx.W.o i)) x = Dx.Z.bad := @Dx.clS.eq_8
@[simp] theorem q_hdB_1 : ∀ (cn : PySem.Str) (fs : List (PySem.Str × Dx.D)) (h : Dx.SM) (x : Dx.Env), Dx.hdB cn fs h Option.none x = if List.all x Dx.nxe = Bool.true then Dx.Z.bind (Dx.noX (h x)) fun (sg : Dx.Sig) (ρ2 : Dx.Env) ↦ if List.all ρ2 Dx.nxe = Bool.true then Dx.clS sg ρ2 else Dx.Z.bad else Dx.Z.bad := @Dx.hdB.eq_1
@[simp] theorem q_hdB_2 : ∀ (cn : PySem.Str) (fs : List (PySem.Str × Dx.D)) (h : Dx.SM) (x : Dx.Env) (i : Nat), Dx.hdB cn fs h (Option.some i) x = if List.all x Dx.nxe = Bool.true then Dx.Z.bind (Dx.noX (h (List.set x i (Dx.Slot.xe cn fs)))) fun (sg : Dx.Sig) (ρ2 : Dx.Env) ↦ if List.all (List.set ρ2 i Dx.Slot.un) Dx.nxe = Bool.true then Dx.clS sg (List.set ρ2 i Dx.Slot.un) else Dx.Z.bad else Dx.Z.bad := @Dx.hdB.eq_2
@[simp] theorem q_trR_1 : ∀ (al : List PySem.Str) (hs : List Dx.Cz) (sg : Dx.Sig) (ρ : Dx.Env), Dx.trR al hs (Dx.Z.ok sg ρ) = Dx.Z.ok sg ρ := @Dx.trR.eq_1
@[simp] theorem q_trR_2 : ∀ (al : List PySem.Str) (hs : List Dx.Cz) (cn : PySem.Str) (fs : List (PySem.Str × Dx.D)) (ρ : Dx.Env), Dx.trR al hs (Dx.Z.ex cn fs ρ) = if cn ∈ al then Dx.hdR cn fs ρ hs else Dx.Z.bad := @Dx.trR.eq_2
@[simp] theorem q_trR_3 : ∀ (al : List PySem.Str) (hs : List Dx.Cz), Dx.trR al hs Dx.Z.bad = Dx.Z.bad := @Dx.trR.eq_3
@[simp] theorem q_xfR_1 : ∀ (cn f : PySem.Str) (x : Dx.Env) (c : PySem.Str) (fs : List (PySem.Str × Dx.D)), Dx.xfR cn f (Option.some (Dx.Slot.xe c fs)) x = if c = cn then Dx.toW (Option.map Dx.W.t (List.lookup f fs)) x else Dx.Z.bad := @Dx.xfR.eq_1
@[simp] theorem q_xfR_2 : ∀ (cn f : PySem.Str) (x : Option Dx.Slot) (x_1 : Dx.Env), (∀ (c : PySem.Str) (fs : List (PySem.Str × Dx.D)), x = Option.some (Dx.Slot.xe c fs) → False) → Dx.xfR cn f x x_1 = Dx.Z.bad := @Dx.xfR.eq_2
@[simp] theorem q_isxR_1 : ∀ (cn : PySem.Str) (ans : Bool) (x : Dx.Env) (c : PySem.Str) (fs : List (PySem.Str × Dx.D)), Dx.isxR cn ans (Option.some (Dx.Slot.xe c fs)) x = if c = cn then Dx.Z.ok (Dx.W.t (Dx.D.bl ans)) x else Dx.Z.bad := @Dx.isxR.eq_1
@[simp] theorem q_isxR_2 : ∀ (cn : PySem.Str) (ans : Bool) (x : Option Dx.Slot) (x_1 : Dx.Env), (∀ (c : PySem.Str) (fs : List (PySem.Str × Dx.D)), x = Option.some (Dx.Slot.xe c fs) → False) → Dx.isxR cn ans x x_1 = Dx.Z.bad := @Dx.isxR.eq_2
@[simp] theorem q_nxe_1 : ∀ (c : PySem.Str) (fs : List (PySem.Str × Dx.D)), Dx.nxe (Dx.Slot.xe c fs) = Bool.false := @Dx.nxe.eq_1
@[simp] theorem q_nxe_2 : ∀ (x : Dx.Slot), (∀ (c : PySem.Str) (fs : List (PySem.Str × Dx.D)), x = Dx.Slot.xe c fs → False) → Dx.nxe x = Bool.true := @Dx.nxe.eq_2
@[simp] theorem q_E_ownT_1 : ∀ (t : Dx.Tr), Dx.E.ownT Dx.Pm.io (Option.some (Dx.Slot.ob Dx.Md.mine t)) = Option.some t := @Dx.E.ownT.eq_1
@[simp] theorem q_E_ownT_2 : ∀ (s : Bool) (t : Dx.Tr), Dx.E.ownT Dx.Pm.io (Option.some (Dx.Slot.ob (Dx.Md.io s) t)) = Option.some t := @Dx.E.ownT.eq_2
@[simp] theorem q_E_ownT_3 : ∀ (o : Bool) (ds : List Dx.D), Dx.E.ownT Dx.Pm.io (Option.some (Dx.Slot.ol o ds)) = Option.some (Dx.Tr.l ds) := @Dx.E.ownT.eq_3
@[simp] theorem q_E_ownT_4 : ∀ (b : Bool) (es : List (Dx.D × Dx.D)), Dx.E.ownT Dx.Pm.io (Option.some (Dx.Slot.od b es)) = Option.some (Dx.Tr.g b es) := @Dx.E.ownT.eq_4
@[simp] theorem q_E_ownT_5 : ∀ (m : Dx.Md) (t : Dx.Tr), Dx.E.ownT Dx.Pm.ro (Option.some (Dx.Slot.ob m t)) = Option.some t := @Dx.E.ownT.eq_5
@[simp] theorem q_E_ownT_6 : ∀ (o : Bool) (ds : List Dx.D), Dx.E.ownT Dx.Pm.ro (Option.some (Dx.Slot.ol o ds)) = Option.some (Dx.Tr.l ds) := @Dx.E.ownT.eq_6
@[simp] theorem q_E_ownT_7 : ∀ (b : Bool) (es : List (Dx.D × Dx.D)), Dx.E.ownT Dx.Pm.ro (Option.some (Dx.Slot.od b es)) = Option.some (Dx.Tr.g b es) := @Dx.E.ownT.eq_7
@[simp] theorem q_E_ownT_8 : ∀ (d : Dx.D), Dx.E.ownT Dx.Pm.ro (Option.some (Dx.Slot.tr d)) = Option.some (Dx.Tr.fz d) := @Dx.E.ownT.eq_8
@[simp] theorem q_E_ownT_9 : ∀ (x : Dx.Pm) (x_1 : Option Dx.Slot), (∀ (t : Dx.Tr), x = Dx.Pm.io → x_1 = Option.some (Dx.Slot.ob Dx.Md.mine t) → False) → (∀ (s : Bool) (t : Dx.Tr), x = Dx.Pm.io → x_1 = Option.some (Dx.Slot.ob (Dx.Md.io s) t) → False) → (∀ (o : Bool) (ds : List Dx.D), x = Dx.Pm.io → x_1 = Option.some (Dx.Slot.ol o ds) → False) → (∀ (b : Bool) (es : List (Dx.D × Dx.D)), x = Dx.Pm.io → x_1 = Option.some (Dx.Slot.od b es) → False) → (∀ (m : Dx.Md) (t : Dx.Tr), x = Dx.Pm.ro → x_1 = Option.some (Dx.Slot.ob m t) → False) → (∀ (o : Bool) (ds : List Dx.D), x = Dx.Pm.ro → x_1 = Option.some (Dx.Slot.ol o ds) → False) → (∀ (b : Bool) (es : List (Dx.D × Dx.D)), x = Dx.Pm.ro → x_1 = Option.some (Dx.Slot.od b es) → False) → (∀ (d : Dx.D), x = Dx.Pm.ro → x_1 = Option.some (Dx.Slot.tr d) → False) → Dx.E.ownT x x_1 = Option.none := @Dx.E.ownT.eq_9
@[simp] theorem q_E_isFz_1 : ∀ (d : Dx.D), Dx.E.isFz (Dx.Tr.fz d) = Bool.true := @Dx.E.isFz.eq_1
@[simp] theorem q_E_isFz_2 : ∀ (x : Dx.Tr), (∀ (d : Dx.D), x = Dx.Tr.fz d → False) → Dx.E.isFz x = Bool.false := @Dx.E.isFz.eq_2
@[simp] theorem q_E_tkO_1 : ∀ (ks : List Dx.Pm) (rest : List Dx.Pm → List Dx.W → Dx.Env → Option (List (Option Nat × Dx.Tr))) (ws : List Dx.W) (ρ : Dx.Env) (i : Nat) (t : Dx.Tr), Dx.E.tkO ks rest ws ρ i (Option.some t) = Option.map (fun (l : List (Option Nat × Dx.Tr)) ↦ (Option.some i, t) :: l) (rest ks ws ρ) := @Dx.E.tkO.eq_1
@[simp] theorem q_E_tkO_2 : ∀ (ks : List Dx.Pm) (rest : List Dx.Pm → List Dx.W → Dx.Env → Option (List (Option Nat × Dx.Tr))) (ws : List Dx.W) (ρ : Dx.Env) (i : Nat), Dx.E.tkO ks rest ws ρ i Option.none = Option.none := @Dx.E.tkO.eq_2
@[simp] theorem q_E_takeO_1 : ∀ (x : Dx.Env), Dx.E.takeO [] [] x = Option.some [] := @Dx.E.takeO.eq_1
@[simp] theorem q_E_takeO_2 : ∀ (x : Dx.Env) (ks : List Dx.Pm) (head : Dx.W) (ws : List Dx.W), Dx.E.takeO (Dx.Pm.d :: ks) (head :: ws) x = Dx.E.takeO ks ws x := @Dx.E.takeO.eq_2
@[simp] theorem q_E_takeO_3 : ∀ (x : Dx.Env) (ks : List Dx.Pm) (i : Nat) (ws : List Dx.W),
  Dx.E.takeO (Dx.Pm.io :: ks) (Dx.W.o i :: ws) x =
    match Dx.E.ownT Dx.Pm.io x[i]? with
    | Option.some t => if Dx.E.isFz t = Bool.true then Option.none else Option.map (fun (l : List (Option Nat × Dx.Tr)) ↦ (Option.some i, t) :: l) (Dx.E.takeO ks ws x)
    | Option.none => Option.none := @Dx.E.takeO.eq_3
@[simp] theorem q_E_takeO_4 : ∀ (x : Dx.Env) (ks : List Dx.Pm) (i : Nat) (ws : List Dx.W),
  Dx.E.takeO (Dx.Pm.ro :: ks) (Dx.W.o i :: ws) x =
    match Dx.E.ownT Dx.Pm.ro x[i]? with
    | Option.some t => Option.map (fun (l : List (Option Nat × Dx.Tr)) ↦ (Option.some i, t) :: l) (Dx.E.takeO ks ws x)
    | Option.none => Option.none := @Dx.E.takeO.eq_4
@[simp] theorem q_E_takeO_5 : ∀ (x : Dx.Env) (ks : List Dx.Pm) (d : Dx.D) (ws : List Dx.W), Dx.E.takeO (Dx.Pm.ro :: ks) (Dx.W.t d :: ws) x = Option.map (fun (l : List (Option Nat × Dx.Tr)) ↦ (Option.none, Dx.Tr.fz d) :: l) (Dx.E.takeO ks ws x) := @Dx.E.takeO.eq_5
@[simp] theorem q_E_takeO_6 : ∀ (x : List Dx.Pm) (x_1 : List Dx.W) (x_2 : Dx.Env), (x = [] → x_1 = [] → False) → (∀ (ks : List Dx.Pm) (head : Dx.W) (ws : List Dx.W), x = Dx.Pm.d :: ks → x_1 = head :: ws → False) → (∀ (ks : List Dx.Pm) (i : Nat) (ws : List Dx.W), x = Dx.Pm.io :: ks → x_1 = Dx.W.o i :: ws → False) → (∀ (ks : List Dx.Pm) (i : Nat) (ws : List Dx.W), x = Dx.Pm.ro :: ks → x_1 = Dx.W.o i :: ws → False) → (∀ (ks : List Dx.Pm) (d : Dx.D) (ws : List Dx.W), x = Dx.Pm.ro :: ks → x_1 = Dx.W.t d :: ws → False) → Dx.E.takeO x x_1 x_2 = Option.none := @Dx.E.takeO.eq_6
@[simp] theorem q_E_putT_1 : ∀ (x : Dx.Tr) (m : Dx.Md) (t : Dx.Tr), Dx.E.putT (Option.some (Dx.Slot.ob m t)) x = Option.some (Dx.Slot.ob m x) := @Dx.E.putT.eq_1
@[simp] theorem q_E_putT_2 : ∀ (o : Bool) (ds ds_1 : List Dx.D), Dx.E.putT (Option.some (Dx.Slot.ol o ds)) (Dx.Tr.l ds_1) = Option.some (Dx.Slot.ol o ds_1) := @Dx.E.putT.eq_2
@[simp] theorem q_E_putT_3 : ∀ (b : Bool) (kvs : List (Dx.D × Dx.D)) (b' : Bool) (es : List (Dx.D × Dx.D)), Dx.E.putT (Option.some (Dx.Slot.od b kvs)) (Dx.Tr.g b' es) = if b = b' then Option.some (Dx.Slot.od b es) else Option.none := @Dx.E.putT.eq_3
@[simp] theorem q_E_putT_4 : ∀ (x : Option Dx.Slot) (x_1 : Dx.Tr), (∀ (m : Dx.Md) (t : Dx.Tr), x = Option.some (Dx.Slot.ob m t) → False) → (∀ (o : Bool) (ds ds_1 : List Dx.D), x = Option.some (Dx.Slot.ol o ds) → x_1 = Dx.Tr.l ds_1 → False) → (∀ (b : Bool) (kvs : List (Dx.D × Dx.D)) (b' : Bool) (es : List (Dx.D × Dx.D)), x = Option.some (Dx.Slot.od b kvs) → x_1 = Dx.Tr.g b' es → False) → Dx.E.putT x x_1 = Option.none := @Dx.E.putT.eq_4
@[simp] theorem q_E_puO_1 : ∀ (rest : Dx.Env → Option Dx.Env) (i : Nat) (ρ : Dx.Env) (s : Dx.Slot), Dx.E.puO rest i ρ (Option.some s) = rest (List.set ρ i s) := @Dx.E.puO.eq_1
@[simp] theorem q_E_puO_2 : ∀ (rest : Dx.Env → Option Dx.Env) (i : Nat) (ρ : Dx.Env), Dx.E.puO rest i ρ Option.none = Option.none := @Dx.E.puO.eq_2
@[simp] theorem q_E_nodupI_1 : Dx.E.nodupI [] = Bool.true := @Dx.E.nodupI.eq_1
@[simp] theorem q_E_nodupI_2 : ∀ (snd : Dx.Tr) (os : List (Option Nat × Dx.Tr)), Dx.E.nodupI ((Option.none, snd) :: os) = Dx.E.nodupI os := @Dx.E.nodupI.eq_2
@[simp] theorem q_E_nodupI_3 : ∀ (i : Nat) (snd : Dx.Tr) (os : List (Option Nat × Dx.Tr)), Dx.E.nodupI ((Option.some i, snd) :: os) = ((List.all os fun (p : Option Nat × Dx.Tr) ↦ Prod.fst p != Option.some i) && Dx.E.nodupI os) := @Dx.E.nodupI.eq_3
@[simp] theorem q_E_enO_1 : ∀ (w : Dx.W) (ρ : Dx.Env), Dx.E.enO w (Option.some ρ) = Dx.E.frW (Dx.Fr.ok w []) ρ := @Dx.E.enO.eq_1
@[simp] theorem q_E_enO_2 : ∀ (w : Dx.W), Dx.E.enO w Option.none = Dx.Z.bad := @Dx.E.enO.eq_2
@[simp] theorem q_E_exO_1 : ∀ (c : PySem.Str) (fs : List (PySem.Str × Dx.D)) (ρ : Dx.Env), Dx.E.exO c fs (Option.some ρ) = Dx.Z.ex c fs ρ := @Dx.E.exO.eq_1
@[simp] theorem q_E_exO_2 : ∀ (c : PySem.Str) (fs : List (PySem.Str × Dx.D)), Dx.E.exO c fs Option.none = Dx.Z.bad := @Dx.E.exO.eq_2
@[simp] theorem q_E_frO_1 : ∀ (ks : List Dx.Pm) (os : List (Option Nat × Dx.Tr)) (ρ : Dx.Env) (w : Dx.W) (ts : List Dx.Tr), Dx.E.frO ks os ρ (Dx.FrO.ok w ts) = Dx.E.enO w (Dx.E.putO ks os ts ρ) := @Dx.E.frO.eq_1
@[simp] theorem q_E_frO_2 : ∀ (ks : List Dx.Pm) (os : List (Option Nat × Dx.Tr)) (ρ : Dx.Env) (cn : PySem.Str) (fs : List (PySem.Str × Dx.D)) (ts : List Dx.Tr), Dx.E.frO ks os ρ (Dx.FrO.ex cn fs ts) = Dx.E.exO cn fs (Dx.E.putO ks os ts ρ) := @Dx.E.frO.eq_2
@[simp] theorem q_E_frO_3 : ∀ (ks : List Dx.Pm) (os : List (Option Nat × Dx.Tr)) (ρ : Dx.Env), Dx.E.frO ks os ρ Dx.FrO.bad = Dx.Z.bad := @Dx.E.frO.eq_3
@[simp] theorem q_E_coO_1 : ∀ (ks : List Dx.Pm) (m : List Dx.D → List Dx.Tr → Dx.FrO) (ds : List Dx.D) (ρ : Dx.Env) (os : List (Option Nat × Dx.Tr)), Dx.E.coO ks m ds ρ (Option.some os) = if Dx.E.nodupI os = Bool.true then Dx.E.frO ks os ρ (m ds (List.map (fun (x : Option Nat × Dx.Tr) ↦ Prod.snd x) os)) else Dx.Z.bad := @Dx.E.coO.eq_1
@[simp] theorem q_E_coO_2 : ∀ (ks : List Dx.Pm) (m : List Dx.D → List Dx.Tr → Dx.FrO) (ds : List Dx.D) (ρ : Dx.Env), Dx.E.coO ks m ds ρ Option.none = Dx.Z.bad := @Dx.E.coO.eq_2
@[simp] theorem q_E_fzD_1 : ∀ (x : Dx.Env), Dx.E.fzD [] [] x = Dx.Z.ok [] x := @Dx.E.fzD.eq_1
@[simp] theorem q_E_fzD_2 : ∀ (x : Dx.Env) (ks : List Dx.Pm) (w : Dx.W) (ws : List Dx.W), Dx.E.fzD (Dx.Pm.d :: ks) (w :: ws) x = Dx.Z.bind (Dx.fz w x) fun (d : Dx.D) (ρ1 : Dx.Env) ↦ Dx.Z.bind (Dx.E.fzD ks ws ρ1) fun (ds : List Dx.D) (ρ2 : Dx.Env) ↦ Dx.Z.ok (d :: ds) ρ2 := @Dx.E.fzD.eq_2
@[simp] theorem q_E_fzD_3 : ∀ (x : Dx.Env) (ks : List Dx.Pm) (head : Dx.W) (ws : List Dx.W), Dx.E.fzD (Dx.Pm.io :: ks) (head :: ws) x = Dx.E.fzD ks ws x := @Dx.E.fzD.eq_3
@[simp] theorem q_E_fzD_4 : ∀ (x : Dx.Env) (ks : List Dx.Pm) (head : Dx.W) (ws : List Dx.W), Dx.E.fzD (Dx.Pm.ro :: ks) (head :: ws) x = Dx.E.fzD ks ws x := @Dx.E.fzD.eq_4
@[simp] theorem q_E_fzD_5 : ∀ (x : List Dx.Pm) (x_1 : List Dx.W) (x_2 : Dx.Env), (x = [] → x_1 = [] → False) → (∀ (ks : List Dx.Pm) (w : Dx.W) (ws : List Dx.W), x = Dx.Pm.d :: ks → x_1 = w :: ws → False) → (∀ (ks : List Dx.Pm) (head : Dx.W) (ws : List Dx.W), x = Dx.Pm.io :: ks → x_1 = head :: ws → False) → (∀ (ks : List Dx.Pm) (head : Dx.W) (ws : List Dx.W), x = Dx.Pm.ro :: ks → x_1 = head :: ws → False) → Dx.E.fzD x x_1 x_2 = Dx.Z.bad := @Dx.E.fzD.eq_5
@[simp] theorem q_E_putO_1 : ∀ (x : Dx.Env), Dx.E.putO [] [] [] x = Option.some x := @Dx.E.putO.eq_1
@[simp] theorem q_E_putO_2 : ∀ (x : List (Option Nat × Dx.Tr)) (x_1 : List Dx.Tr) (x_2 : Dx.Env) (ks : List Dx.Pm), Dx.E.putO (Dx.Pm.d :: ks) x x_1 x_2 = Dx.E.putO ks x x_1 x_2 := @Dx.E.putO.eq_2
@[simp] theorem q_E_putO_3 : ∀ (x : Dx.Env) (ks : List Dx.Pm) (i : Nat) (snd : Dx.Tr) (os : List (Option Nat × Dx.Tr)) (t : Dx.Tr) (ts : List Dx.Tr), Dx.E.putO (Dx.Pm.io :: ks) ((Option.some i, snd) :: os) (t :: ts) x = Dx.E.puO (fun (ρ : Dx.Env) ↦ Dx.E.putO ks os ts ρ) i x (Dx.E.putT x[i]? t) := @Dx.E.putO.eq_3
@[simp] theorem q_E_putO_4 : ∀ (x : Dx.Env) (ks : List Dx.Pm) (head : Option Nat × Dx.Tr) (os : List (Option Nat × Dx.Tr)) (head_1 : Dx.Tr) (ts : List Dx.Tr), Dx.E.putO (Dx.Pm.ro :: ks) (head :: os) (head_1 :: ts) x = Dx.E.putO ks os ts x := @Dx.E.putO.eq_4
@[simp] theorem q_E_putO_5 : ∀ (x : List Dx.Pm) (x_1 : List (Option Nat × Dx.Tr)) (x_2 : List Dx.Tr) (x_3 : Dx.Env), (∀ (ks : List Dx.Pm), x = Dx.Pm.d :: ks → False) → (x = [] → x_1 = [] → x_2 = [] → False) → (∀ (ks : List Dx.Pm) (i : Nat) (snd : Dx.Tr) (os : List (Option Nat × Dx.Tr)) (t : Dx.Tr) (ts : List Dx.Tr), x = Dx.Pm.io :: ks → x_1 = (Option.some i, snd) :: os → x_2 = t :: ts → False) → (∀ (ks : List Dx.Pm) (head : Option Nat × Dx.Tr) (os : List (Option Nat × Dx.Tr)) (head_1 : Dx.Tr) (ts : List Dx.Tr), x = Dx.Pm.ro :: ks → x_1 = head :: os → x_2 = head_1 :: ts → False) → Dx.E.putO x x_1 x_2 x_3 = Option.none := @Dx.E.putO.eq_5
@[simp] theorem q_slotO_1 : ∀ (ds : List Dx.D), Dx.slotO Dx.Pm.io (Dx.Tr.l ds) = Dx.Slot.ol Bool.true ds := @Dx.slotO.eq_1
@[simp] theorem q_slotO_2 : ∀ (x : Dx.Tr), (∀ (ds : List Dx.D), x = Dx.Tr.l ds → False) → Dx.slotO Dx.Pm.io x = Dx.Slot.ob (Dx.Md.io (Dx.hasPend x)) x := @Dx.slotO.eq_2
@[simp] theorem q_slotO_3 : ∀ (d : Dx.D), Dx.slotO Dx.Pm.ro (Dx.Tr.fz d) = Dx.Slot.tr d := @Dx.slotO.eq_3
@[simp] theorem q_slotO_4 : ∀ (x : Dx.Tr), (∀ (d : Dx.D), x = Dx.Tr.fz d → False) → Dx.slotO Dx.Pm.ro x = Dx.Slot.ob Dx.Md.ro x := @Dx.slotO.eq_4
@[simp] theorem q_slotO_5 : ∀ (x : Dx.Tr), Dx.slotO Dx.Pm.d x = Dx.Slot.un := @Dx.slotO.eq_5
@[simp] theorem q_envO_1 : ∀ (x : List Dx.Tr) (ks : List Dx.Pm) (d : Dx.D) (ds : List Dx.D), Dx.envO (Dx.Pm.d :: ks) (d :: ds) x = Dx.Slot.tr d :: Dx.envO ks ds x := @Dx.envO.eq_1
@[simp] theorem q_envO_2 : ∀ (x : List Dx.D) (ks : List Dx.Pm) (t : Dx.Tr) (ts : List Dx.Tr), Dx.envO (Dx.Pm.io :: ks) x (t :: ts) = Dx.slotO Dx.Pm.io t :: Dx.envO ks x ts := @Dx.envO.eq_2
@[simp] theorem q_envO_3 : ∀ (x : List Dx.D) (ks : List Dx.Pm) (t : Dx.Tr) (ts : List Dx.Tr), Dx.envO (Dx.Pm.ro :: ks) x (t :: ts) = Dx.slotO Dx.Pm.ro t :: Dx.envO ks x ts := @Dx.envO.eq_3
@[simp] theorem q_envO_4 : ∀ (x : List Dx.Pm) (x_1 : List Dx.D) (x_2 : List Dx.Tr), (∀ (ks : List Dx.Pm) (d : Dx.D) (ds : List Dx.D), x = Dx.Pm.d :: ks → x_1 = d :: ds → False) → (∀ (ks : List Dx.Pm) (t : Dx.Tr) (ts : List Dx.Tr), x = Dx.Pm.io :: ks → x_2 = t :: ts → False) → (∀ (ks : List Dx.Pm) (t : Dx.Tr) (ts : List Dx.Tr), x = Dx.Pm.ro :: ks → x_2 = t :: ts → False) → Dx.envO x x_1 x_2 = [] := @Dx.envO.eq_4
@[simp] theorem q_outS_1 : ∀ (ds : List Dx.D), Dx.outS (Option.some (Dx.Slot.ol Bool.true ds)) = Option.some (Dx.Tr.l ds) := @Dx.outS.eq_1
@[simp] theorem q_outS_2 : ∀ (s : Bool) (t : Dx.Tr), Dx.outS (Option.some (Dx.Slot.ob (Dx.Md.io s) t)) = Option.some t := @Dx.outS.eq_2
@[simp] theorem q_outS_3 : ∀ (x : Option Dx.Slot), (∀ (ds : List Dx.D), x = Option.some (Dx.Slot.ol Bool.true ds) → False) → (∀ (s : Bool) (t : Dx.Tr), x = Option.some (Dx.Slot.ob (Dx.Md.io s) t) → False) → Dx.outS x = Option.none := @Dx.outS.eq_3
@[simp] theorem q_outO_1 : ∀ (x : Nat) (x_1 : Dx.Env), Dx.outO [] x x_1 = Option.some [] := @Dx.outO.eq_1
@[simp] theorem q_outO_2 : ∀ (x : Nat) (x_1 : Dx.Env) (ks : List Dx.Pm), Dx.outO (Dx.Pm.d :: ks) x x_1 = Dx.outO ks (x + 1) x_1 := @Dx.outO.eq_2
@[simp] theorem q_outO_3 : ∀ (x : Nat) (x_1 : Dx.Env) (ks : List Dx.Pm),
  Dx.outO (Dx.Pm.io :: ks) x x_1 =
    match Dx.outS x_1[x]? with
    | Option.some t => Option.map (fun (l : List Dx.Tr) ↦ t :: l) (Dx.outO ks (x + 1) x_1)
    | Option.none => Option.none := @Dx.outO.eq_3
@[simp] theorem q_outO_4 : ∀ (x : Nat) (x_1 : Dx.Env) (ks : List Dx.Pm), Dx.outO (Dx.Pm.ro :: ks) x x_1 = Option.map (fun (l : List Dx.Tr) ↦ Dx.Tr.fz Dx.D.non :: l) (Dx.outO ks (x + 1) x_1) := @Dx.outO.eq_4
@[simp] theorem q_hasPend_1 : ∀ (c : PySem.Str) (ts : List (Dx.Ky × Dx.Tr)), Dx.hasPend (Dx.Tr.n (Dx.Nk.ins c) ts) = List.any ts fun (p : Dx.Ky × Dx.Tr) ↦ Prod.fst p == Dx.Ky.f (PySem.Str.ofString "pending") := @Dx.hasPend.eq_1
@[simp] theorem q_hasPend_2 : ∀ (x : Dx.Tr), (∀ (c : PySem.Str) (ts : List (Dx.Ky × Dx.Tr)), x = Dx.Tr.n (Dx.Nk.ins c) ts → False) → Dx.hasPend x = Bool.false := @Dx.hasPend.eq_2
@[simp] theorem q_mkO_1 : ∀ (w : Dx.W) (ts : List Dx.Tr), Dx.mkO w (Option.some ts) = Dx.FrO.ok w ts := @Dx.mkO.eq_1
@[simp] theorem q_mkO_2 : ∀ (w : Dx.W), Dx.mkO w Option.none = Dx.FrO.bad := @Dx.mkO.eq_2
@[simp] theorem q_mxO_1 : ∀ (c : PySem.Str) (fs : List (PySem.Str × Dx.D)) (ts : List Dx.Tr), Dx.mxO c fs (Option.some ts) = Dx.FrO.ex c fs ts := @Dx.mxO.eq_1
@[simp] theorem q_mxO_2 : ∀ (c : PySem.Str) (fs : List (PySem.Str × Dx.D)), Dx.mxO c fs Option.none = Dx.FrO.bad := @Dx.mxO.eq_2
@[simp] theorem q_endO_1 : ∀ (ks : List Dx.Pm) (d : Dx.D) (ρ : Dx.Env), Dx.endO ks (Dx.Z.ok (Dx.Sig.rt (Dx.W.t d)) ρ) = Dx.mkO (Dx.W.t d) (Dx.outO ks 0 ρ) := @Dx.endO.eq_1
@[simp] theorem q_endO_2 : ∀ (ks : List Dx.Pm) (ds : List Dx.D) (ρ : Dx.Env), Dx.endO ks (Dx.Z.ok (Dx.Sig.rt (Dx.W.f ds)) ρ) = Dx.mkO (Dx.W.f ds) (Dx.outO ks 0 ρ) := @Dx.endO.eq_2
@[simp] theorem q_endO_3 : ∀ (ks : List Dx.Pm) (b : Bool) (es : List (Dx.D × Dx.D)) (ρ : Dx.Env), Dx.endO ks (Dx.Z.ok (Dx.Sig.rt (Dx.W.g b es)) ρ) = Dx.mkO (Dx.W.g b es) (Dx.outO ks 0 ρ) := @Dx.endO.eq_3
@[simp] theorem q_endO_4 : ∀ (ks : List Dx.Pm) (t : Dx.Tr) (ρ : Dx.Env), Dx.endO ks (Dx.Z.ok (Dx.Sig.rt (Dx.W.u t)) ρ) = Dx.mkO (Dx.W.u t) (Dx.outO ks 0 ρ) := @Dx.endO.eq_4
@[simp] theorem q_endO_5 : ∀ (ks : List Dx.Pm) (i : Nat) (ρ : Dx.Env), Dx.endO ks (Dx.Z.ok (Dx.Sig.rt (Dx.W.o i)) ρ) = Dx.FrO.bad := @Dx.endO.eq_5
@[simp] theorem q_endO_6 : ∀ (ks : List Dx.Pm) (ρ : Dx.Env), Dx.endO ks (Dx.Z.ok Dx.Sig.nx ρ) = Dx.mkO (Dx.W.t Dx.D.non) (Dx.outO ks 0 ρ) := @Dx.endO.eq_6
@[simp] theorem q_endO_7 : ∀ (ks : List Dx.Pm) (ρ : Dx.Env), Dx.endO ks (Dx.Z.ok Dx.Sig.bk ρ) = Dx.FrO.bad := @Dx.endO.eq_7
@[simp] theorem q_endO_8 : ∀ (ks : List Dx.Pm) (ρ : Dx.Env), Dx.endO ks (Dx.Z.ok Dx.Sig.ct ρ) = Dx.FrO.bad := @Dx.endO.eq_8
@[simp] theorem q_endO_9 : ∀ (ks : List Dx.Pm) (c : PySem.Str) (fs : List (PySem.Str × Dx.D)) (ρ : Dx.Env), Dx.endO ks (Dx.Z.ex c fs ρ) = Dx.mxO c fs (Dx.outO ks 0 ρ) := @Dx.endO.eq_9
@[simp] theorem q_endO_10 : ∀ (ks : List Dx.Pm), Dx.endO ks Dx.Z.bad = Dx.FrO.bad := @Dx.endO.eq_10
@[simp] theorem q_D_im_1 : ∀ (ds : List Dx.D), Dx.D.im (Dx.D.tup ds) = Dx.D.ims ds := @Dx.D.im.eq_1
@[simp] theorem q_D_im_2 : ∀ (ds : List Dx.D), Dx.D.im (Dx.D.lst ds) = Bool.false := @Dx.D.im.eq_2
@[simp] theorem q_D_im_3 : ∀ (b : Bool) (kvs : List (Dx.D × Dx.D)), Dx.D.im (Dx.D.dct b kvs) = Bool.false := @Dx.D.im.eq_3
@[simp] theorem q_D_im_4 : ∀ (c : PySem.Str) (fs : List (PySem.Str × Dx.D)), Dx.D.im (Dx.D.ins c fs) = Bool.false := @Dx.D.im.eq_4
@[simp] theorem q_D_im_5 : ∀ (ds : List Dx.D), Dx.D.im (Dx.D.scr ds) = Bool.false := @Dx.D.im.eq_5
@[simp] theorem q_D_im_6 : Dx.D.im Dx.D.non = Bool.true := @Dx.D.im.eq_6
@[simp] theorem q_D_im_7 : ∀ (b : Bool), Dx.D.im (Dx.D.bl b) = Bool.true := @Dx.D.im.eq_7
@[simp] theorem q_D_im_8 : ∀ (i : Int), Dx.D.im (Dx.D.int i) = Bool.true := @Dx.D.im.eq_8
@[simp] theorem q_D_im_9 : ∀ (s : PySem.Str), Dx.D.im (Dx.D.str s) = Bool.true := @Dx.D.im.eq_9
@[simp] theorem q_D_im_10 : ∀ (n : String), Dx.D.im (Dx.D.ty n) = Bool.true := @Dx.D.im.eq_10
@[simp] theorem q_D_im_11 : ∀ (c : PySem.Str), Dx.D.im (Dx.D.cls c) = Bool.true := @Dx.D.im.eq_11
@[simp] theorem q_D_ims_1 : Dx.D.ims [] = Bool.true := @Dx.D.ims.eq_1
@[simp] theorem q_D_ims_2 : ∀ (d : Dx.D) (ds : List Dx.D), Dx.D.ims (d :: ds) = (Dx.D.im d && Dx.D.ims ds) := @Dx.D.ims.eq_2
@[simp] theorem q_hidS_1 : ∀ (d : Dx.D), Dx.hidS (Dx.Slot.tr d) = Dx.Slot.tr d := @Dx.hidS.eq_1
@[simp] theorem q_hidS_2 : Dx.hidS Dx.Slot.un = Dx.Slot.un := @Dx.hidS.eq_2
@[simp] theorem q_hidS_3 : ∀ (o : Bool) (ds : List Dx.D), Dx.hidS (Dx.Slot.ol o ds) = Dx.Slot.un := @Dx.hidS.eq_3
@[simp] theorem q_hidS_4 : ∀ (b : Bool) (kvs : List (Dx.D × Dx.D)), Dx.hidS (Dx.Slot.od b kvs) = Dx.Slot.un := @Dx.hidS.eq_4
@[simp] theorem q_hidS_5 : ∀ (m : Dx.Md) (t : Dx.Tr), Dx.hidS (Dx.Slot.ob m t) = Dx.Slot.un := @Dx.hidS.eq_5
@[simp] theorem q_hidS_6 : ∀ (c : PySem.Str) (fs : List (PySem.Str × Dx.D)), Dx.hidS (Dx.Slot.xe c fs) = Dx.Slot.un := @Dx.hidS.eq_6
@[simp] theorem q_vwS_1 : ∀ (d : Dx.D), Dx.vwS (Dx.Slot.tr d) = Dx.Slot.tr d := @Dx.vwS.eq_1
@[simp] theorem q_vwS_2 : Dx.vwS Dx.Slot.un = Dx.Slot.un := @Dx.vwS.eq_2
@[simp] theorem q_vwS_3 : ∀ (o : Bool) (ds : List Dx.D), Dx.vwS (Dx.Slot.ol o ds) = Dx.Slot.tr (Dx.D.lst ds) := @Dx.vwS.eq_3
@[simp] theorem q_vwS_4 : ∀ (b : Bool) (kvs : List (Dx.D × Dx.D)), Dx.vwS (Dx.Slot.od b kvs) = Dx.Slot.tr (Dx.D.dct b kvs) := @Dx.vwS.eq_4
@[simp] theorem q_vwS_5 : ∀ (m : Dx.Md) (t : Dx.Tr), Dx.vwS (Dx.Slot.ob m t) = Dx.Slot.tr (Dx.Tr.toD t) := @Dx.vwS.eq_5
@[simp] theorem q_vwS_6 : ∀ (c : PySem.Str) (fs : List (PySem.Str × Dx.D)), Dx.vwS (Dx.Slot.xe c fs) = Dx.Slot.un := @Dx.vwS.eq_6
@[simp] theorem q_tmR_1 : ∀ (x : Dx.Env) (d : Dx.D) (ρ : Dx.Env), Dx.tmR (Dx.Z.ok (Dx.W.t d) ρ) x = if Dx.D.im d = Bool.true then Dx.Z.ok (Dx.W.t d) x else Dx.Z.bad := @Dx.tmR.eq_1
@[simp] theorem q_tmR_2 : ∀ (x : Dx.Env) (ds : List Dx.D) (ρ : Dx.Env), Dx.tmR (Dx.Z.ok (Dx.W.f ds) ρ) x = if Dx.D.ims ds = Bool.true then Dx.Z.ok (Dx.W.f ds) x else Dx.Z.bad := @Dx.tmR.eq_2
@[simp] theorem q_tmR_3 : ∀ (x : Dx.Env) (b : Bool) (es : List (Dx.D × Dx.D)) (ρ : Dx.Env), Dx.tmR (Dx.Z.ok (Dx.W.g b es) ρ) x = if Dx.D.ims (List.map (fun (x : Dx.D × Dx.D) ↦ Prod.snd x) es) = Bool.true then Dx.Z.ok (Dx.W.g b es) x else Dx.Z.bad := @Dx.tmR.eq_3
@[simp] theorem q_tmR_4 : ∀ (x : Dx.Env) (t : Dx.Tr) (ρ : Dx.Env), Dx.tmR (Dx.Z.ok (Dx.W.u t) ρ) x = Dx.Z.bad := @Dx.tmR.eq_4
@[simp] theorem q_tmR_5 : ∀ (x : Dx.Env) (i : Nat) (ρ : Dx.Env), Dx.tmR (Dx.Z.ok (Dx.W.o i) ρ) x = Dx.Z.bad := @Dx.tmR.eq_5
@[simp] theorem q_tmR_6 : ∀ (x : Dx.Env) (c : PySem.Str) (fs : List (PySem.Str × Dx.D)) (ρ : Dx.Env), Dx.tmR (Dx.Z.ex c fs ρ) x = Dx.Z.bad := @Dx.tmR.eq_6
@[simp] theorem q_tmR_7 : ∀ (x : Dx.Env), Dx.tmR Dx.Z.bad x = Dx.Z.bad := @Dx.tmR.eq_7
@[simp] theorem q_flR_1 : ∀ (cn f : PySem.Str) (x : Dx.Env) (c : PySem.Str) (fs : List (PySem.Str × Dx.D)), Dx.flR cn f (Option.some (Dx.D.ins c fs)) x = if c = cn then Dx.toW (Option.map Dx.W.t (List.lookup f fs)) x else Dx.Z.bad := @Dx.flR.eq_1
@[simp] theorem q_flR_2 : ∀ (cn f : PySem.Str) (x : Option Dx.D) (x_1 : Dx.Env), (∀ (c : PySem.Str) (fs : List (PySem.Str × Dx.D)), x = Option.some (Dx.D.ins c fs) → False) → Dx.flR cn f x x_1 = Dx.Z.bad := @Dx.flR.eq_2
@[simp] theorem q_vwE_1 : ∀ (is : List Nat) (x : Nat), Dx.vwE is x [] = [] := @Dx.vwE.eq_1
@[simp] theorem q_vwE_2 : ∀ (is : List Nat) (x : Nat) (s : Dx.Slot) (ρ : List Dx.Slot), Dx.vwE is x (s :: ρ) = (if x ∈ is then Dx.vwS s else Dx.hidS s) :: Dx.vwE is (x + 1) ρ := @Dx.vwE.eq_2
@[simp] theorem q_insS_1 : ∀ (cn mn : PySem.Str) (m : Dx.Md) (c : PySem.Str) (ts : List (Dx.Ky × Dx.Tr)), Dx.insS cn mn (Option.some (Dx.Slot.ob m (Dx.Tr.n (Dx.Nk.ins c) ts))) = (Decidable.decide (c = cn) && Dx.noKey mn ts) := @Dx.insS.eq_1
@[simp] theorem q_insS_2 : ∀ (cn mn c : PySem.Str) (fs : List (PySem.Str × Dx.D)), Dx.insS cn mn (Option.some (Dx.Slot.tr (Dx.D.ins c fs))) = (Decidable.decide (c = cn) && Dx.noFld mn fs) := @Dx.insS.eq_2
@[simp] theorem q_insS_3 : ∀ (cn mn : PySem.Str) (x : Option Dx.Slot), (∀ (m : Dx.Md) (c : PySem.Str) (ts : List (Dx.Ky × Dx.Tr)), x = Option.some (Dx.Slot.ob m (Dx.Tr.n (Dx.Nk.ins c) ts)) → False) → (∀ (c : PySem.Str) (fs : List (PySem.Str × Dx.D)), x = Option.some (Dx.Slot.tr (Dx.D.ins c fs)) → False) → Dx.insS cn mn x = Bool.false := @Dx.insS.eq_3
@[simp] theorem q_insW_1 : ∀ (cn mn : PySem.Str) (x : Dx.Env) (c : PySem.Str) (fs : List (PySem.Str × Dx.D)), Dx.insW cn mn (Dx.W.t (Dx.D.ins c fs)) x = (Decidable.decide (c = cn) && Dx.noFld mn fs) := @Dx.insW.eq_1
@[simp] theorem q_insW_2 : ∀ (cn mn : PySem.Str) (x : Dx.Env) (i : Nat), Dx.insW cn mn (Dx.W.o i) x = Dx.insS cn mn x[i]? := @Dx.insW.eq_2
@[simp] theorem q_insW_3 : ∀ (cn mn : PySem.Str) (x : Dx.W) (x_1 : Dx.Env), (∀ (c : PySem.Str) (fs : List (PySem.Str × Dx.D)), x = Dx.W.t (Dx.D.ins c fs) → False) → (∀ (i : Nat), x = Dx.W.o i → False) → Dx.insW cn mn x x_1 = Bool.false := @Dx.insW.eq_3
@[simp] theorem q_E_mkE_1 : ∀ (u : Dx.Tr) (ρ : Dx.Env), Dx.E.mkE u (Option.some ρ) = Dx.Z.ok (Dx.W.u u) ρ := @Dx.E.mkE.eq_1
@[simp] theorem q_E_mkE_2 : ∀ (u : Dx.Tr), Dx.E.mkE u Option.none = Dx.Z.bad := @Dx.E.mkE.eq_2
@[simp] theorem q_E_mkR_1 : ∀ (ks : List Dx.Pm) (os : List (Option Nat × Dx.Tr)) (ρ : Dx.Env) (u : Dx.Tr) (us : List Dx.Tr), Dx.E.mkR ks os ρ (Dx.FrO.ok (Dx.W.t Dx.D.non) (u :: us)) = Dx.E.mkE u (Dx.E.putO ks os us ρ) := @Dx.E.mkR.eq_1
@[simp] theorem q_E_mkR_2 : ∀ (ks : List Dx.Pm) (os : List (Option Nat × Dx.Tr)) (ρ : Dx.Env) (c : PySem.Str) (fs : List (PySem.Str × Dx.D)) (head : Dx.Tr) (us : List Dx.Tr), Dx.E.mkR ks os ρ (Dx.FrO.ex c fs (head :: us)) = Dx.E.exO c fs (Dx.E.putO ks os us ρ) := @Dx.E.mkR.eq_2
@[simp] theorem q_E_mkR_3 : ∀ (ks : List Dx.Pm) (os : List (Option Nat × Dx.Tr)) (ρ : Dx.Env) (x : Dx.FrO), (∀ (u : Dx.Tr) (us : List Dx.Tr), x = Dx.FrO.ok (Dx.W.t Dx.D.non) (u :: us) → False) → (∀ (c : PySem.Str) (fs : List (PySem.Str × Dx.D)) (head : Dx.Tr) (us : List Dx.Tr), x = Dx.FrO.ex c fs (head :: us) → False) → Dx.E.mkR ks os ρ x = Dx.Z.bad := @Dx.E.mkR.eq_3
@[simp] theorem q_E_mkC_1 : ∀ (cn : PySem.Str) (ks : List Dx.Pm) (m : List Dx.D → List Dx.Tr → Dx.FrO) (ds : List Dx.D) (ρ : Dx.Env) (os : List (Option Nat × Dx.Tr)), Dx.E.mkC cn ks m ds ρ (Option.some os) = if Dx.E.nodupI os = Bool.true then Dx.E.mkR ks os ρ (m ds (Dx.Tr.n (Dx.Nk.ins cn) [] :: List.map (fun (x : Option Nat × Dx.Tr) ↦ Prod.snd x) os)) else Dx.Z.bad := @Dx.E.mkC.eq_1
@[simp] theorem q_E_mkC_2 : ∀ (cn : PySem.Str) (ks : List Dx.Pm) (m : List Dx.D → List Dx.Tr → Dx.FrO) (ds : List Dx.D) (ρ : Dx.Env), Dx.E.mkC cn ks m ds ρ Option.none = Dx.Z.bad := @Dx.E.mkC.eq_2
@[simp] theorem q_noKey_1 : ∀ (mn : PySem.Str), Dx.noKey mn [] = Bool.true := @Dx.noKey.eq_1
@[simp] theorem q_noKey_2 : ∀ (mn : PySem.Str) (k : Dx.Ky) (snd : Dx.Tr) (ts : List (Dx.Ky × Dx.Tr)), Dx.noKey mn ((k, snd) :: ts) = if k = Dx.Ky.f mn then Bool.false else Dx.noKey mn ts := @Dx.noKey.eq_2
@[simp] theorem q_noFld_1 : ∀ (mn : PySem.Str), Dx.noFld mn [] = Bool.true := @Dx.noFld.eq_1
@[simp] theorem q_noFld_2 : ∀ (mn k : PySem.Str) (snd : Dx.D) (ts : List (PySem.Str × Dx.D)), Dx.noFld mn ((k, snd) :: ts) = if k = mn then Bool.false else Dx.noFld mn ts := @Dx.noFld.eq_2
@[simp] theorem q_lkT_1 : ∀ (k : Dx.Ky), Dx.lkT k [] = Option.none := @Dx.lkT.eq_1
@[simp] theorem q_lkT_2 : ∀ (k k' : Dx.Ky) (t : Dx.Tr) (ts : List (Dx.Ky × Dx.Tr)), Dx.lkT k ((k', t) :: ts) = if k' = k then Option.some t else Dx.lkT k ts := @Dx.lkT.eq_2
@[simp] theorem q_stT_1 : ∀ (k : Dx.Ky) (u : Dx.Tr), Dx.stT k u [] = [(k, u)] := @Dx.stT.eq_1
@[simp] theorem q_stT_2 : ∀ (k : Dx.Ky) (u : Dx.Tr) (k' : Dx.Ky) (t : Dx.Tr) (ts : List (Dx.Ky × Dx.Tr)), Dx.stT k u ((k', t) :: ts) = if k' = k then (k', u) :: ts else (k', t) :: Dx.stT k u ts := @Dx.stT.eq_2
@[simp] theorem q_mdW_1 : Dx.mdW Dx.Md.ro = Bool.false := @Dx.mdW.eq_1
@[simp] theorem q_mdW_2 : Dx.mdW Dx.Md.mine = Bool.true := @Dx.mdW.eq_2
@[simp] theorem q_mdW_3 : ∀ (s : Bool), Dx.mdW (Dx.Md.io s) = Bool.true := @Dx.mdW.eq_3
@[simp] theorem q_obF_1 : ∀ {α : Type} (cn : PySem.Str) (k : Dx.Md → List (Dx.Ky × Dx.Tr) → Dx.Z α) (m : Dx.Md) (c : PySem.Str) (ts : List (Dx.Ky × Dx.Tr)), Dx.obF cn k (Option.some (Dx.Slot.ob m (Dx.Tr.n (Dx.Nk.ins c) ts))) = if c = cn then k m ts else Dx.Z.bad := @Dx.obF.eq_1
@[simp] theorem q_obF_2 : ∀ {α : Type} (cn : PySem.Str) (k : Dx.Md → List (Dx.Ky × Dx.Tr) → Dx.Z α) (x : Option Dx.Slot), (∀ (m : Dx.Md) (c : PySem.Str) (ts : List (Dx.Ky × Dx.Tr)), x = Option.some (Dx.Slot.ob m (Dx.Tr.n (Dx.Nk.ins c) ts)) → False) → Dx.obF cn k x = Dx.Z.bad := @Dx.obF.eq_2
@[simp] theorem q_qaR_1 : ∀ (x : Dx.Env) (ws : List Dx.W) (ρ : Dx.Env), Dx.qaR (Dx.Z.ok ws ρ) x = Dx.toZ (Dx.valsW ws) x := @Dx.qaR.eq_1
@[simp] theorem q_qaR_2 : ∀ (x : Dx.Env) (c : PySem.Str) (fs : List (PySem.Str × Dx.D)) (ρ : Dx.Env), Dx.qaR (Dx.Z.ex c fs ρ) x = Dx.Z.bad := @Dx.qaR.eq_2
@[simp] theorem q_qaR_3 : ∀ (x : Dx.Env), Dx.qaR Dx.Z.bad x = Dx.Z.bad := @Dx.qaR.eq_3
@[simp] theorem q_lmoE_1 : ∀ (i : Nat) (m : Dx.Md) (cn fld : PySem.Str) (ts : List (Dx.Ky × Dx.Tr)) (x : Dx.Env) (d : Dx.D) (zs : List Dx.D), Dx.lmoE i m cn fld ts (Option.some (d, zs)) x = Dx.Z.ok (Dx.W.t d) (List.set x i (Dx.Slot.ob m (Dx.Tr.n (Dx.Nk.ins cn) (Dx.stT (Dx.Ky.f fld) (Dx.Tr.l zs) ts)))) := @Dx.lmoE.eq_1
@[simp] theorem q_lmoE_2 : ∀ (i : Nat) (m : Dx.Md) (cn fld : PySem.Str) (ts : List (Dx.Ky × Dx.Tr)) (x : Dx.Env), Dx.lmoE i m cn fld ts Option.none x = Dx.Z.bad := @Dx.lmoE.eq_2
@[simp] theorem q_lmoT_1 : ∀ (f : Dx.LM) (i : Nat) (m : Dx.Md) (cn fld : PySem.Str) (ts : List (Dx.Ky × Dx.Tr)) (ds : List Dx.D) (ρ : Dx.Env) (zs : List Dx.D), Dx.lmoT f i m cn fld ts ds ρ (Option.some (Dx.Tr.l zs)) = if Dx.mdW m = Bool.true then Dx.lmoE i m cn fld ts (f zs ds) ρ else Dx.Z.bad := @Dx.lmoT.eq_1
@[simp] theorem q_lmoT_2 : ∀ (f : Dx.LM) (i : Nat) (m : Dx.Md) (cn fld : PySem.Str) (ts : List (Dx.Ky × Dx.Tr)) (ds : List Dx.D) (ρ : Dx.Env) (x : Option Dx.Tr), (∀ (zs : List Dx.D), x = Option.some (Dx.Tr.l zs) → False) → Dx.lmoT f i m cn fld ts ds ρ x = Dx.Z.bad := @Dx.lmoT.eq_2
@[simp] theorem q_isL_1 : ∀ (zs : List Dx.D), Dx.isL (Option.some (Dx.Tr.l zs)) = Bool.true := @Dx.isL.eq_1
@[simp] theorem q_isL_2 : ∀ (x : Option Dx.Tr), (∀ (zs : List Dx.D), x = Option.some (Dx.Tr.l zs) → False) → Dx.isL x = Bool.false := @Dx.isL.eq_2
@[simp] theorem q_penS_1 : ∀ (cn c : PySem.Str) (ts : List (Dx.Ky × Dx.Tr)), Dx.penS cn (Option.some (Dx.Slot.ob (Dx.Md.io Bool.true) (Dx.Tr.n (Dx.Nk.ins c) ts))) = (Decidable.decide (c = cn) && Dx.isL (Dx.lkT (Dx.Ky.f (PySem.Str.ofString "pending")) ts)) := @Dx.penS.eq_1
@[simp] theorem q_penS_2 : ∀ (cn : PySem.Str) (x : Option Dx.Slot), (∀ (c : PySem.Str) (ts : List (Dx.Ky × Dx.Tr)), x = Option.some (Dx.Slot.ob (Dx.Md.io Bool.true) (Dx.Tr.n (Dx.Nk.ins c) ts)) → False) → Dx.penS cn x = Bool.false := @Dx.penS.eq_2
@[simp] theorem q_prW_1 : ∀ (x : Dx.Env) (d : Dx.D), Dx.prW (Dx.W.t d) x = Dx.Z.ok (Dx.Tr.fz d) x := @Dx.prW.eq_1
@[simp] theorem q_prW_2 : ∀ (x : Dx.Env) (ds : List Dx.D), Dx.prW (Dx.W.f ds) x = Dx.Z.ok (Dx.Tr.l ds) x := @Dx.prW.eq_2
@[simp] theorem q_prW_3 : ∀ (x : Dx.Env) (b : Bool) (es : List (Dx.D × Dx.D)), Dx.prW (Dx.W.g b es) x = Dx.Z.ok (Dx.Tr.g b es) x := @Dx.prW.eq_3
@[simp] theorem q_prW_4 : ∀ (x : Dx.Env) (t : Dx.Tr), Dx.prW (Dx.W.u t) x = Dx.Z.ok t x := @Dx.prW.eq_4
@[simp] theorem q_prW_5 : ∀ (x : Dx.Env) (i : Nat), Dx.prW (Dx.W.o i) x = Dx.Z.bind (Dx.fz (Dx.W.o i) x) fun (d : Dx.D) (ρ1 : Dx.Env) ↦ Dx.Z.ok (Dx.Tr.fz d) ρ1 := @Dx.prW.eq_5
@[simp] theorem q_attOk_1 : ∀ (m : Dx.Md) (fld : PySem.Str) (ts : List (Dx.Ky × Dx.Tr)), Dx.attOk m fld ts = (Dx.mdW m && Decidable.decide (List.length ts < 900) && (!Decidable.decide (fld = PySem.Str.ofString "pending") || !Option.isSome (Dx.lkT (Dx.Ky.f (PySem.Str.ofString "pending")) ts))) := @Dx.attOk.eq_1
@[simp] theorem q_ataR_1 : ∀ (i : Nat) (cn fld : PySem.Str) (f : Dx.D → Dx.D → Option Dx.W) (d0 : Dx.D) (x : Dx.Env) (d1 : Dx.D), Dx.ataR i cn fld f d0 (Option.some d1) x = Dx.Z.bind (Dx.toW (f d0 d1) x) fun (w : Dx.W) (ρ2 : Dx.Env) ↦ Dx.Z.bind (Dx.prW w ρ2) fun (u : Dx.Tr) (ρ3 : Dx.Env) ↦ Dx.obF cn (fun (m : Dx.Md) (ts : List (Dx.Ky × Dx.Tr)) ↦ if Dx.attOk m fld ts = Bool.true then Dx.Z.ok Dx.Sig.nx (List.set ρ3 i (Dx.Slot.ob m (Dx.Tr.n (Dx.Nk.ins cn) (Dx.stT (Dx.Ky.f fld) u ts)))) else Dx.Z.bad) ρ3[i]? := @Dx.ataR.eq_1
@[simp] theorem q_ataR_2 : ∀ (i : Nat) (cn fld : PySem.Str) (f : Dx.D → Dx.D → Option Dx.W) (d0 : Dx.D) (x : Dx.Env), Dx.ataR i cn fld f d0 Option.none x = Dx.Z.bad := @Dx.ataR.eq_2
@[simp] theorem q_ataS_1 : ∀ (i : Nat) (cn fld : PySem.Str) (f : Dx.D → Dx.D → Option Dx.W) (e : Dx.EM) (ρ : Dx.Env) (d0 : Dx.D), Dx.ataS i cn fld f e ρ (Option.some (Dx.Tr.fz d0)) = Dx.Z.bind (e ρ) fun (w : Dx.W) (ρ1 : Dx.Env) ↦ Dx.ataR i cn fld f d0 (Dx.pk (Dx.W.st w) ρ1) ρ1 := @Dx.ataS.eq_1
@[simp] theorem q_ataS_2 : ∀ (i : Nat) (cn fld : PySem.Str) (f : Dx.D → Dx.D → Option Dx.W) (e : Dx.EM) (ρ : Dx.Env) (x : Option Dx.Tr), (∀ (d0 : Dx.D), x = Option.some (Dx.Tr.fz d0) → False) → Dx.ataS i cn fld f e ρ x = Dx.Z.bad := @Dx.ataS.eq_2
@[simp] theorem q_valsW_1 : Dx.valsW [] = Option.some [] := @Dx.valsW.eq_1
@[simp] theorem q_valsW_2 : ∀ (d : Dx.D) (ws : List Dx.W), Dx.valsW (Dx.W.t d :: ws) = Option.map (fun (ds : List Dx.D) ↦ d :: ds) (Dx.valsW ws) := @Dx.valsW.eq_2
@[simp] theorem q_valsW_3 : ∀ (x : List Dx.W), (x = [] → False) → (∀ (d : Dx.D) (ws : List Dx.W), x = Dx.W.t d :: ws → False) → Dx.valsW x = Option.none := @Dx.valsW.eq_3
@[simp] theorem q_kyK_1 : ∀ (i : Int), Dx.kyK (Dx.D.int i) = Option.some (Sum.inl i) := @Dx.kyK.eq_1
@[simp] theorem q_kyK_2 : ∀ (s : PySem.Str), Dx.kyK (Dx.D.str s) = Option.some (Sum.inr s) := @Dx.kyK.eq_2
@[simp] theorem q_kyK_3 : ∀ (x : Dx.D), (∀ (i : Int), x = Dx.D.int i → False) → (∀ (s : PySem.Str), x = Dx.D.str s → False) → Dx.kyK x = Option.none := @Dx.kyK.eq_3
@[simp] theorem q_kysT_1 : Dx.kysT [] = Option.some [] := @Dx.kysT.eq_1
@[simp] theorem q_kysT_2 : ∀ (d : Dx.D) (ds : List Dx.D),
  Dx.kysT (d :: ds) =
    match Dx.kyK d, Dx.kysT ds with
    | Option.some k, Option.some ks => Option.some (k :: ks)
    | x, x_1 => Option.none := @Dx.kysT.eq_2
@[simp] theorem q_dky_1 : ∀ (i : Int), Dx.dky (Dx.D.int i) = Option.some (Dx.Ky.k (Sum.inl i)) := @Dx.dky.eq_1
@[simp] theorem q_dky_2 : ∀ (s : PySem.Str), Dx.dky (Dx.D.str s) = Option.some (Dx.Ky.k (Sum.inr s)) := @Dx.dky.eq_2
@[simp] theorem q_dky_3 : ∀ (ds : List Dx.D), Dx.dky (Dx.D.tup ds) = Option.map Dx.Ky.t (Dx.kysT ds) := @Dx.dky.eq_3
@[simp] theorem q_dky_4 : ∀ (x : Dx.D), (∀ (i : Int), x = Dx.D.int i → False) → (∀ (s : PySem.Str), x = Dx.D.str s → False) → (∀ (ds : List Dx.D), x = Dx.D.tup ds → False) → Dx.dky x = Option.none := @Dx.dky.eq_4
@[simp] theorem q_lkD_1 : ∀ (k : Dx.Ky), Dx.lkD k [] = Option.none := @Dx.lkD.eq_1
@[simp] theorem q_lkD_2 : ∀ (k : Dx.Ky) (p : Dx.D × Dx.D) (r : List (Dx.D × Dx.D)), Dx.lkD k (p :: r) = if Dx.dky (Prod.fst p) = Option.some k then Option.some (Prod.snd p) else Dx.lkD k r := @Dx.lkD.eq_2
@[simp] theorem q_kyB_1 : ∀ (i : Int), Dx.kyB Bool.false (Dx.D.int i) = Option.some (Dx.Ky.k (Sum.inl i)) := @Dx.kyB.eq_1
@[simp] theorem q_kyB_2 : ∀ (s : PySem.Str), Dx.kyB Bool.false (Dx.D.str s) = Option.some (Dx.Ky.k (Sum.inr s)) := @Dx.kyB.eq_2
@[simp] theorem q_kyB_3 : ∀ (ds : List Dx.D), Dx.kyB Bool.true (Dx.D.tup ds) = Option.map Dx.Ky.t (Dx.kysT ds) := @Dx.kyB.eq_3
@[simp] theorem q_kyB_4 : ∀ (x : Bool) (x_1 : Dx.D), (∀ (i : Int), x = Bool.false → x_1 = Dx.D.int i → False) → (∀ (s : PySem.Str), x = Bool.false → x_1 = Dx.D.str s → False) → (∀ (ds : List Dx.D), x = Bool.true → x_1 = Dx.D.tup ds → False) → Dx.kyB x x_1 = Option.none := @Dx.kyB.eq_4
@[simp] theorem q_dget_1 : ∀ (x : Dx.D) (b : Bool) (es : List (Dx.D × Dx.D)), Dx.dget (Dx.D.dct b es) x = Option.map (fun (y : Dx.Ky) ↦ Dx.lkD y es) (Dx.kyB b x) := @Dx.dget.eq_1
@[simp] theorem q_dget_2 : ∀ (x x_1 : Dx.D), (∀ (b : Bool) (es : List (Dx.D × Dx.D)), x = Dx.D.dct b es → False) → Dx.dget x x_1 = Option.none := @Dx.dget.eq_2
@[simp] theorem q_O_dinR_1 : ∀ (o : Option Dx.D), Dx.O.dinR (Option.some o) = Dx.wb (Option.isSome o) := @Dx.O.dinR.eq_1
@[simp] theorem q_O_dinR_2 : Dx.O.dinR Option.none = Option.none := @Dx.O.dinR.eq_2
@[simp] theorem q_O_dniR_1 : ∀ (o : Option Dx.D), Dx.O.dniR (Option.some o) = Dx.wb !Option.isSome o := @Dx.O.dniR.eq_1
@[simp] theorem q_O_dniR_2 : Dx.O.dniR Option.none = Option.none := @Dx.O.dniR.eq_2
@[simp] theorem q_O_dixR_1 : ∀ (d : Dx.D), Dx.O.dixR (Option.some (Option.some d)) = Option.some (Dx.W.t d) := @Dx.O.dixR.eq_1
@[simp] theorem q_O_dixR_2 : ∀ (x : Option (Option Dx.D)), (∀ (d : Dx.D), x = Option.some (Option.some d) → False) → Dx.O.dixR x = Option.none := @Dx.O.dixR.eq_2
@[simp] theorem q_isDc_1 : ∀ (b : Bool) (kvs : List (Dx.D × Dx.D)), Dx.isDc (Option.some (Dx.D.dct b kvs)) = Bool.true := @Dx.isDc.eq_1
@[simp] theorem q_isDc_2 : ∀ (x : Option Dx.D), (∀ (b : Bool) (kvs : List (Dx.D × Dx.D)), x = Option.some (Dx.D.dct b kvs) → False) → Dx.isDc x = Bool.false := @Dx.isDc.eq_2
@[simp] theorem q_dgR_1 : ∀ (x : Dx.D) (ρ : Dx.Env) (v : Dx.D), Dx.dgR x ρ (Option.some (Option.some v)) = Dx.Z.ok (Dx.W.t v) ρ := @Dx.dgR.eq_1
@[simp] theorem q_dgR_2 : ∀ (x : Dx.D) (ρ : Dx.Env), Dx.dgR x ρ (Option.some Option.none) = Dx.Z.ok (Dx.W.t x) ρ := @Dx.dgR.eq_2
@[simp] theorem q_dgR_3 : ∀ (x : Dx.D) (ρ : Dx.Env), Dx.dgR x ρ Option.none = Dx.Z.bad := @Dx.dgR.eq_3
@[simp] theorem q_dgK_1 : ∀ (x : Dx.Env) (d k x_4 : Dx.D), Dx.dgK (Option.some d) (Option.some k) (Option.some x_4) x = if Dx.D.im x_4 = Bool.true then Dx.dgR x_4 x (Dx.dget d k) else Dx.Z.bad := @Dx.dgK.eq_1
@[simp] theorem q_dgK_2 : ∀ (x x_1 x_2 : Option Dx.D) (x_3 : Dx.Env), (∀ (d k x_4 : Dx.D), x = Option.some d → x_1 = Option.some k → x_2 = Option.some x_4 → False) → Dx.dgK x x_1 x_2 x_3 = Dx.Z.bad := @Dx.dgK.eq_2
@[simp] theorem q_isOd_1 : ∀ (b : Bool) (kvs : List (Dx.D × Dx.D)), Dx.isOd (Option.some (Dx.Slot.od b kvs)) = Bool.true := @Dx.isOd.eq_1
@[simp] theorem q_isOd_2 : ∀ (x : Option Dx.Slot), (∀ (b : Bool) (kvs : List (Dx.D × Dx.D)), x = Option.some (Dx.Slot.od b kvs) → False) → Dx.isOd x = Bool.false := @Dx.isOd.eq_2
@[simp] theorem q_dputK_1 : ∀ (i : Nat) (d : Dx.D) (b : Bool) (es : List (Dx.D × Dx.D)) (k : Dx.D) (ρ : Dx.Env) (y : Dx.Ky), Dx.dputK i d b es k ρ (Option.some y) = if List.length es < 1000000 then Dx.Z.ok Dx.Sig.nx (List.set ρ i (Dx.Slot.od b (Dx.putD y k d es))) else Dx.Z.bad := @Dx.dputK.eq_1
@[simp] theorem q_dputK_2 : ∀ (i : Nat) (d : Dx.D) (b : Bool) (es : List (Dx.D × Dx.D)) (k : Dx.D) (ρ : Dx.Env), Dx.dputK i d b es k ρ Option.none = Dx.Z.bad := @Dx.dputK.eq_2
@[simp] theorem q_dputR_1 : ∀ (i : Nat) (d : Dx.D) (x : Dx.Env) (k : Dx.D) (b : Bool) (es : List (Dx.D × Dx.D)), Dx.dputR i d (Option.some k) (Option.some (Dx.Slot.od b es)) x = Dx.dputK i d b es k x (Dx.kyB b k) := @Dx.dputR.eq_1
@[simp] theorem q_dputR_2 : ∀ (i : Nat) (d : Dx.D) (x : Option Dx.D) (x_1 : Option Dx.Slot) (x_2 : Dx.Env), (∀ (k : Dx.D) (b : Bool) (es : List (Dx.D × Dx.D)), x = Option.some k → x_1 = Option.some (Dx.Slot.od b es) → False) → Dx.dputR i d x x_1 x_2 = Dx.Z.bad := @Dx.dputR.eq_2
@[simp] theorem q_qeW_1 : ∀ (x : Dx.Env) (d : Dx.D), Dx.qeW (Dx.W.t d) x = Dx.Z.ok d x := @Dx.qeW.eq_1
@[simp] theorem q_qeW_2 : ∀ (x : Dx.W) (x_1 : Dx.Env), (∀ (d : Dx.D), x = Dx.W.t d → False) → Dx.qeW x x_1 = Dx.Z.bad := @Dx.qeW.eq_2
@[simp] theorem q_qeR_1 : ∀ (x : Dx.Env) (w : Dx.W) (ρ : Dx.Env), Dx.qeR (Dx.Z.ok w ρ) x = Dx.qeW w x := @Dx.qeR.eq_1
@[simp] theorem q_qeR_2 : ∀ (x : Dx.Env) (c : PySem.Str) (fs : List (PySem.Str × Dx.D)) (ρ : Dx.Env), Dx.qeR (Dx.Z.ex c fs ρ) x = Dx.Z.bad := @Dx.qeR.eq_2
@[simp] theorem q_qeR_3 : ∀ (x : Dx.Env), Dx.qeR Dx.Z.bad x = Dx.Z.bad := @Dx.qeR.eq_3
@[simp] theorem q_isG_1 : ∀ (b : Bool) (es : List (Dx.D × Dx.D)), Dx.isG (Option.some (Dx.Tr.g b es)) = Bool.true := @Dx.isG.eq_1
@[simp] theorem q_isG_2 : ∀ (x : Option Dx.Tr), (∀ (b : Bool) (es : List (Dx.D × Dx.D)), x = Option.some (Dx.Tr.g b es) → False) → Dx.isG x = Bool.false := @Dx.isG.eq_2
@[simp] theorem q_fdpK_1 : ∀ (i : Nat) (m : Dx.Md) (cn fld : PySem.Str) (ts : List (Dx.Ky × Dx.Tr)) (d k : Dx.D) (b : Bool) (es : List (Dx.D × Dx.D)) (ρ : Dx.Env) (y : Dx.Ky), Dx.fdpK i m cn fld ts d k b es ρ (Option.some y) = if List.length es < 1000000 then Dx.Z.ok Dx.Sig.nx (List.set ρ i (Dx.Slot.ob m (Dx.Tr.n (Dx.Nk.ins cn) (Dx.stT (Dx.Ky.f fld) (Dx.Tr.g b (Dx.putD y k d es)) ts)))) else Dx.Z.bad := @Dx.fdpK.eq_1
@[simp] theorem q_fdpK_2 : ∀ (i : Nat) (m : Dx.Md) (cn fld : PySem.Str) (ts : List (Dx.Ky × Dx.Tr)) (d k : Dx.D) (b : Bool) (es : List (Dx.D × Dx.D)) (ρ : Dx.Env), Dx.fdpK i m cn fld ts d k b es ρ Option.none = Dx.Z.bad := @Dx.fdpK.eq_2
@[simp] theorem q_fdpT_1 : ∀ (i : Nat) (m : Dx.Md) (cn fld : PySem.Str) (ts : List (Dx.Ky × Dx.Tr)) (d k : Dx.D) (ρ : Dx.Env) (b : Bool) (es : List (Dx.D × Dx.D)), Dx.fdpT i m cn fld ts d k ρ (Option.some (Dx.Tr.g b es)) = Dx.fdpK i m cn fld ts d k b es ρ (Dx.kyB b k) := @Dx.fdpT.eq_1
@[simp] theorem q_fdpT_2 : ∀ (i : Nat) (m : Dx.Md) (cn fld : PySem.Str) (ts : List (Dx.Ky × Dx.Tr)) (d k : Dx.D) (ρ : Dx.Env) (x : Option Dx.Tr), (∀ (b : Bool) (es : List (Dx.D × Dx.D)), x = Option.some (Dx.Tr.g b es) → False) → Dx.fdpT i m cn fld ts d k ρ x = Dx.Z.bad := @Dx.fdpT.eq_2
@[simp] theorem q_O_isC_1 : ∀ (cn c : PySem.Str) (fs : List (PySem.Str × Dx.D)), Dx.O.isC cn (Dx.D.ins c fs) = if c = cn then Dx.wb Bool.true else Option.none := @Dx.O.isC.eq_1
@[simp] theorem q_O_isC_2 : ∀ (cn : PySem.Str) (x : Dx.D), (∀ (c : PySem.Str) (fs : List (PySem.Str × Dx.D)), x = Dx.D.ins c fs → False) → Dx.O.isC cn x = if Option.isSome (Dx.D.tyc x) = Bool.true then Dx.wb Bool.false else Option.none := @Dx.O.isC.eq_2
@[simp] theorem q_lr1K_1 : ∀ (x : Dx.Env) (j : Int), Dx.lr1K (Option.some (Dx.D.int j)) x = Dx.lrR 0 j x := @Dx.lr1K.eq_1
@[simp] theorem q_lr1K_2 : ∀ (x : Option Dx.D) (x_1 : Dx.Env), (∀ (j : Int), x = Option.some (Dx.D.int j) → False) → Dx.lr1K x x_1 = Dx.Z.bad := @Dx.lr1K.eq_2
@[simp] theorem q_lr2K_1 : ∀ (x : Dx.Env) (i j : Int), Dx.lr2K (Option.some (Dx.D.int i)) (Option.some (Dx.D.int j)) x = Dx.lrR i j x := @Dx.lr2K.eq_1
@[simp] theorem q_lr2K_2 : ∀ (x x_1 : Option Dx.D) (x_2 : Dx.Env), (∀ (i j : Int), x = Option.some (Dx.D.int i) → x_1 = Option.some (Dx.D.int j) → False) → Dx.lr2K x x_1 x_2 = Dx.Z.bad := @Dx.lr2K.eq_2
@[simp] theorem q_lrR_1 : ∀ (i j : Int) (ρ : Dx.Env), Dx.lrR i j ρ = if -2 ^ 62 ≤ i ∧ i < 2 ^ 62 ∧ -2 ^ 62 ≤ j ∧ j < 2 ^ 62 ∧ Int.toNat (j - i) ≤ 16000000 then Dx.Z.ok (Dx.W.f (Dx.I.upD i (Int.toNat (j - i)))) ρ else Dx.Z.bad := @Dx.lrR.eq_1
@[simp] theorem q_Nk_mk_1 : ∀ (x : List (Dx.Ky × Dx.D)) (c : PySem.Str), Dx.Nk.mk (Dx.Nk.ins c) x = Dx.D.ins c (List.map (fun (p : Dx.Ky × Dx.D) ↦ (Dx.Ky.s (Prod.fst p), Prod.snd p)) x) := @Dx.Nk.mk.eq_1
@[simp] theorem q_Nk_mk_2 : ∀ (x : List (Dx.Ky × Dx.D)) (b : Bool), Dx.Nk.mk (Dx.Nk.dct b) x = Dx.D.dct b (List.map (fun (p : Dx.Ky × Dx.D) ↦ (Dx.Ky.d (Prod.fst p), Prod.snd p)) x) := @Dx.Nk.mk.eq_2
@[simp] theorem q_Nk_mk_3 : ∀ (x : List (Dx.Ky × Dx.D)), Dx.Nk.mk Dx.Nk.lst x = Dx.D.lst (List.map (fun (x : Dx.Ky × Dx.D) ↦ Prod.snd x) x) := @Dx.Nk.mk.eq_3
@[simp] theorem q_O_lenD_1 : ∀ (b : Bool) (es : List (Dx.D × Dx.D)), Dx.O.lenD (Dx.D.dct b es) = Option.some (Dx.W.t (Dx.D.int ↑(List.length es))) := @Dx.O.lenD.eq_1
@[simp] theorem q_O_lenD_2 : ∀ (x : Dx.D), (∀ (b : Bool) (es : List (Dx.D × Dx.D)), x = Dx.D.dct b es → False) → Dx.O.lenD x = Option.none := @Dx.O.lenD.eq_2
@[simp] theorem q_toZ_1 {α : Type} (a : α) (ρ : Env) : toZ (some a) ρ = Z.ok a ρ := rfl
@[simp] theorem q_toZ_2 {α : Type} (ρ : Env) : toZ (none : Option α) ρ = Z.bad := rfl
@[simp] theorem q_noX_1 {α : Type} (a : α) (ρ : Env) : noX (Z.ok a ρ) = Z.ok a ρ := rfl
@[simp] theorem q_noX_2 {α : Type} (c : PySem.Str) (fs : List (PySem.Str × D)) (ρ : Env) : noX (Z.ex c fs ρ : Z α) = Z.bad := rfl
@[simp] theorem q_noX_3 {α : Type} : noX (Z.bad : Z α) = Z.bad := rfl
/-! == of plain values -/
@[simp] theorem q_eq_int (a b : Int) : O.eq (.int a) (.int b) = wb (decide (a = b)) := rfl
@[simp] theorem q_eq_str (a b : PySem.Str) : O.eq (.str a) (.str b) = wb (decide (a = b)) := rfl
@[simp] theorem q_eq_bl (a b : Bool) : O.eq (.bl a) (.bl b) = wb (decide (a = b)) := rfl
@[simp] theorem q_eq_nn : O.eq .non .non = wb true := rfl
@[simp] theorem q_eq_ni (b : Int) : O.eq .non (.int b) = wb false := rfl
@[simp] theorem q_eq_in (b : Int) : O.eq (.int b) .non = wb false := rfl
@[simp] theorem q_eq_ns (b : PySem.Str) : O.eq .non (.str b) = wb false := rfl
@[simp] theorem q_eq_sn (b : PySem.Str) : O.eq (.str b) .non = wb false := rfl
@[simp] theorem q_eq_is (a : Int) (b : PySem.Str) : O.eq (.int a) (.str b) = wb false := rfl
@[simp] theorem q_eq_si (a : Int) (b : PySem.Str) : O.eq (.str b) (.int a) = wb false := rfl
@[simp] theorem q_ne_int (a b : Int) : O.ne (.int a) (.int b) = wb (!decide (a = b)) := rfl
@[simp] theorem q_ne_str (a b : PySem.Str) : O.ne (.str a) (.str b) = wb (!decide (a = b)) := rfl
@[simp] theorem q_ne_bl (a b : Bool) : O.ne (.bl a) (.bl b) = wb (!decide (a = b)) := rfl
@[simp] theorem q_ne_nn : O.ne .non .non = wb false := rfl
@[simp] theorem q_ne_ni (b : Int) : O.ne .non (.int b) = wb true := rfl
@[simp] theorem q_ne_in (b : Int) : O.ne (.int b) .non = wb true := rfl
@[simp] theorem q_ne_ns (b : PySem.Str) : O.ne .non (.str b) = wb true := rfl
@[simp] theorem q_ne_sn (b : PySem.Str) : O.ne (.str b) .non = wb true := rfl
@[simp] theorem q_truD_b (b : Bool) : E.truD (.bl b) = some b := rfl
@[simp] theorem q_truD_n : E.truD .non = some false := rfl
@[simp] theorem q_truD_i (i : Int) : E.truD (.int i) = some (i != 0) := rfl
@[simp] theorem q_truD_s (s : PySem.Str) : E.truD (.str s) = if s.length ≤ 16777216 then some ((s.length : Int) != 0) else none := rfl
@[simp] theorem q_truD_l (ds : List D) : E.truD (.lst ds) = some (!ds.isEmpty) := rfl
@[simp] theorem q_truD_t (ds : List D) : E.truD (.tup ds) = some (!ds.isEmpty) := rfl
@[simp] theorem q_anD_b (b : EM) (d : D) (x : Bool) (ρ : Env) : E.anD b d (some x) ρ = if x = true then b ρ else .ok (.t d) ρ := by cases x <;> rfl
@[simp] theorem q_orD_b (b : EM) (d : D) (x : Bool) (ρ : Env) : E.orD b d (some x) ρ = if x = true then .ok (.t d) ρ else b ρ := by cases x <;> rfl
@[simp] theorem q_eq_t0 (ds : List D) : O.eq (.tup ds) (.tup []) = wb ds.isEmpty := rfl
@[simp] theorem q_eq_l0 (ds : List D) : O.eq (.lst ds) (.lst []) = wb ds.isEmpty := rfl
@[simp] theorem q_ne_t0 (ds : List D) : O.ne (.tup ds) (.tup []) = wb (!ds.isEmpty) := rfl
@[simp] theorem q_ne_l0 (ds : List D) : O.ne (.lst ds) (.lst []) = wb (!ds.isEmpty) := rfl
@[simp] theorem q_look_1 {α : Type} (k n : PySem.Str) (d : α) (r : List (PySem.Str × α)) : List.lookup k ((n, d) :: r) = if k = n then some d else List.lookup k r := by
  rw [List.lookup]
  by_cases c : k = n
  · subst c; simp
  · rw [if_neg c, beq_eq_false_iff_ne.mpr c]
end Dx

/-! short words (local): go = the readings' own steps; hp, sq = what stands at an address; same = all kept -/
local macro_rules | `(tactic| walk_at "hx len") => `(tactic| (first
  | (obtain ⟨_, rfl, _⟩ := h; rfl) | (obtain ⟨_, _, rfl, _⟩ := h; rfl) | (obtain ⟨_, _, _, rfl, _⟩ := h; rfl) | (obtain ⟨_, _, _, _, rfl, _⟩ := h; rfl)
  | (obtain ⟨_, _, _, _, _, rfl, _⟩ := h; rfl) | (obtain ⟨_, _, _, _, _, _, rfl, _⟩ := h; rfl) | (obtain ⟨_, _, _, _, _, _, _, rfl, _⟩ := h; rfl) | (obtain ⟨rfl, _⟩ := h; rfl)))
local macro_rules | `(tactic| walk_at "hx free") => `(tactic| (first
  | assumption
  | with_reducible exact Hx.f_upd (by assumption) | with_reducible exact Hx.f_u2 (by assumption) | with_reducible exact Hx.f_u3 (by assumption)
  | with_reducible exact Hx.f_u4 (by assumption) | with_reducible exact Hx.f_u5 (by assumption) | with_reducible exact Hx.f_u6 (by assumption)
  | ((with_reducible refine Hx.f_same ?_ (by assumption)); walk_at "hx same")
  | ((with_reducible refine Hx.f_new (by walk_at "hx ne") ?_); walk_at "hx free")))
local macro_rules | `(tactic| walk_at "hx ne") => `(tactic| (first
  | assumption
  | (refine Ne.symm ?_; assumption)
  | with_reducible exact Hx.n_upd (by assumption) | with_reducible exact Hx.n_u2 (by assumption) | with_reducible exact Hx.n_u3 (by assumption) | with_reducible exact Hx.n_u4 (by assumption) | with_reducible exact Hx.n_u5 (by assumption)
  | with_reducible exact (Hx.n_upd (by assumption)).symm | with_reducible exact (Hx.n_u2 (by assumption)).symm | with_reducible exact (Hx.n_u3 (by assumption)).symm | with_reducible exact (Hx.n_u4 (by assumption)).symm
  | with_reducible exact Hx.n_at (by assumption) (by assumption) | with_reducible exact (Hx.n_at (by assumption) (by assumption)).symm))
local macro_rules | `(tactic| walk_at "hx hp") => `(tactic| (first
  | assumption
  | with_reducible exact L2.upd_same
  | ((with_reducible refine Hx.u_old (by walk_at "hx free") ?_); walk_at "hx hp")
  | ((with_reducible refine Hx.u_oth (by walk_at "hx ne") ?_); walk_at "hx hp")
  | ((with_reducible refine (by assumption : L2.Same _ _) _ _ ?_); walk_at "hx hp")))
local macro_rules | `(tactic| walk_at "hx sq") => `(tactic| (first
  | assumption
  | ((with_reducible refine Hx.sq_of ?_); walk_at "hx hp")
  | ((with_reducible refine Hx.sq_old (by walk_at "hx free") ?_); walk_at "hx sq")
  | ((with_reducible refine Hx.sq_oth (by walk_at "hx ne") ?_); walk_at "hx sq")
  | ((with_reducible refine Hx.sq_same (by assumption) ?_); walk_at "hx sq")))
local macro_rules | `(tactic| walk_at "hx same") => `(tactic| (first
  | assumption
  | with_reducible exact L2.Same.refl _
  | ((with_reducible refine Hx.s_new ?_ (by walk_at "hx free")); walk_at "hx same")
  | ((with_reducible refine Hx.s_mut ?_ (by walk_at "hx free")); walk_at "hx same")))
local macro_rules | `(tactic| walk_at "hx one") => `(tactic| (first
  | with_reducible refine Hx.g_seq ?_ | with_reducible refine Hx.g_asg ?_ | with_reducible refine Hx.g_op ?_
  | ((with_reducible refine' Hx.g_var ?hxv ?_); case hxv => exact rfl)
  | with_reducible refine Hx.g_c ?_ | with_reducible refine Hx.g_name ?_ | with_reducible refine Hx.g_cons ?_ | with_reducible refine Hx.g_nil ?_
  | with_reducible refine Hx.g_call ?_ | with_reducible refine Hx.g_CB ?_ | with_reducible refine Hx.g_ret ?_ | with_reducible refine Hx.g_drop ?_
  | with_reducible refine Hx.g_ifS ?_ | with_reducible refine Hx.g_test ?_ | with_reducible refine Hx.g_tB ?_ | with_reducible refine Hx.g_exb ?_
  | with_reducible refine Hx.g_not ?_ | with_reducible refine Hx.g_and ?_ | with_reducible refine Hx.g_or ?_
  | with_reducible refine Hx.g_andV ?_ | with_reducible refine Hx.g_orV ?_ | with_reducible refine Hx.g_notV ?_
  | with_reducible refine Hx.g_addI ?_ | with_reducible refine Hx.g_rI0 ?_ | with_reducible refine Hx.g_rU ?_ | with_reducible refine Hx.g_un ?_
  | with_reducible refine Hx.g_eqI ?_ | with_reducible refine Hx.g_neI ?_ | with_reducible refine Hx.g_eqS2 ?_ | with_reducible refine Hx.g_neS2 ?_
  | with_reducible refine Hx.g_eqB ?_ | with_reducible refine Hx.g_neB ?_ | with_reducible refine Hx.g_ltI ?_
  | with_reducible refine Hx.g_tup ?_ | with_reducible refine Hx.g_lst ?_ | with_reducible refine Hx.g_callK ?_ | with_reducible refine Hx.g_chain ?_
  | with_reducible refine Hx.g_sl ?_ | with_reducible refine Hx.g_nopart ?_ | with_reducible refine Hx.g_part ?_ | with_reducible refine Hx.g_exi ?_
  | with_reducible refine Hx.g_bm ?_ | with_reducible refine Hx.g_bm0 ?_ | with_reducible refine Hx.g_m0 ?_ | with_reducible refine Hx.g_m1 ?_ | with_reducible refine Hx.g_exs ?_
  | with_reducible refine Hx.g_tyS ?_ | with_reducible refine Hx.g_fld ?_ | with_reducible refine Hx.g_meth ?_ | with_reducible refine Hx.g_for ?_ | with_reducible refine Hx.g_lc ?_
  | with_reducible refine Hx.g_yes ?_ | ((with_reducible refine' Hx.g_aug ?hxv ?_); case hxv => exact rfl) | with_reducible refine Hx.g_ipI ?_
  | with_reducible refine Hx.g_revS ?_
  | with_reducible refine Hx.g_iList ?_ | with_reducible refine Hx.g_iStr ?_ | with_reducible refine Hx.g_exstr ?_ | with_reducible refine Hx.g_iRng1 ?_
  | with_reducible refine Hx.g_max2 ?_ | with_reducible refine Hx.g_min2 ?_ | with_reducible refine Hx.g_intB ?_ | with_reducible refine Hx.g_reprB ?_
  | with_reducible refine Hx.g_reprBD ?_ | with_reducible refine Hx.g_callE ?_ | with_reducible refine Hx.g_mkO ?_ | with_reducible refine Hx.g_ini ?_ | with_reducible refine Hx.g_sfld ?_ | with_reducible refine Hx.g_xf ?_ | with_reducible refine Hx.g_clause ?_ | with_reducible refine Hx.g_clause0 ?_ | with_reducible refine Hx.g_dnew ?_ | with_reducible refine Hx.g_disp ?_ | with_reducible refine Hx.g_par ?_ | with_reducible refine Hx.g_intI ?_ | with_reducible refine Hx.g_intBU ?_ | with_reducible refine Hx.g_two ?_
  | with_reducible refine Hx.g_if ?_ | with_reducible refine Hx.g_next ?_ | with_reducible refine Hx.g_brk ?_ | with_reducible refine Hx.g_cont ?_ | with_reducible refine Hx.g_retN ?_
  | with_reducible refine Hx.g_gcons ?_ | with_reducible refine Hx.g_gnil ?_ | with_reducible refine Hx.g_gsub ?_
  | with_reducible refine L2.iteT ?_ | with_reducible refine L2.iteF ?_ | with_reducible refine Hx.g_nT ?_ | with_reducible refine Hx.g_nF ?_))
local macro_rules | `(tactic| walk_at "hx go") => `(tactic| repeat (walk_at "hx one"))
namespace Pf
open PySem PySem.Spec PyProof.Rows L2 Hx Dx
section
-- 0 _law_script, 1 _law_index, 2 _law_cell, 3 _law_number, 4 _law_seed
def b_law_pool : SM :=
  (S.seq (S.set 2 (E.op2 O.ix (E.op2 O.add (E.sl (E.var 0) (E.part (E.var 1)) (E.part (E.op2 O.add (E.var 1) (E.k (.int 1))))) (E.lst (A.cons (E.k (.int 0)) A.nil))) (E.k (.int 0))))
    (S.seq (S.set 3 (E.cb O.max (A.cons (E.var 2) (A.cons (E.op2 O.sub (E.op1 O.neg (E.k (.int 1))) (E.var 2)) A.nil))))
    (S.seq (S.set 4 (E.op2 O.mod (E.op2 O.mul (E.op2 O.add (E.op2 O.add (E.op2 O.add (E.op2 O.mod (E.var 3) (E.k (.int 2147483629))) (E.op2 O.mul (E.op2 O.mul (E.k (.int 7919)) (E.var 1)) (E.var 1))) (E.op2 O.mul (E.k (.int 31)) (E.var 1))) (E.k (.int 17))) (E.k (.int 48271))) (E.k (.int 2147483647))))
    (S.ret (E.lst (A.cons (E.op2 O.mul (E.var 3) (E.cb O.int (A.cons (E.op2 O.ge (E.var 3) (E.op2 O.pow (E.k (.int 10)) (E.k (.int 18)))) A.nil))) (A.cons (E.op2 O.mod (E.op2 O.mul (E.var 4) (E.var 4)) (E.k (.int 2147483629))) A.nil)))))))
def m_law_pool : List D → Dx.Fr := Dx.runP 3 b_law_pool
-- 0 _law_pool_here, 1 _law_bound, 2 _law_digit
def b_law_draw : SM :=
  (S.seq (S.ifs (T.val (E.op2 O.gt (E.op2 O.ix (E.var 0) (E.k (.int 0))) (E.k (.int 0))))
    (S.seq (S.set 2 (E.op2 O.mod (E.op2 O.ix (E.var 0) (E.k (.int 0))) (E.var 1)))
    (S.seq (S.seti 0 (E.k (.int 0)) (E.op2 O.fdiv (E.op2 O.ix (E.var 0) (E.k (.int 0))) (E.var 1)))
    (S.ret (E.var 2))))
    S.nil)
    (S.seq (S.seti 0 (E.k (.int 1)) (E.op2 O.mod (E.op2 O.add (E.op2 O.mul (E.op2 O.ix (E.var 0) (E.k (.int 1))) (E.k (.int 48271))) (E.k (.int 12345))) (E.k (.int 2147483647))))
    (S.ret (E.op2 O.mod (E.op2 O.fdiv (E.op2 O.mod (E.op2 O.mul (E.op2 O.ix (E.var 0) (E.k (.int 1))) (E.op2 O.ix (E.var 0) (E.k (.int 1)))) (E.k (.int 2147483629))) (E.k (.int 64))) (E.var 1)))))
def m_law_draw : List D → List D → Dx.Fr := Dx.runI 1 b_law_draw
-- 0 _law_pool_here, 1 _law_size, 2 _law_density, 3 _law_edges_here, 4 _law_letter, 5 _law_unused, 6 _law_source, 7 _law_node
def bl_law_edges_1 : SM :=
  (S.seq (S.set 7 (E.lm LM.popAt 5 (A.cons (E.callI 1 m_law_draw 0 (A.cons (E.cb O.len (A.cons (E.var 5) A.nil)) A.nil)) A.nil)))
    (S.ifs (T.or (T.val (E.op2 O.eq (E.var 2) (E.k (.int 4)))) (T.val (E.op2 O.gt (E.callI 1 m_law_draw 0 (A.cons (E.var 2) A.nil)) (E.k (.int 0)))))
    (S.drop (E.lm LM.append 3 (A.cons (E.tup (A.cons (E.var 4) (A.cons (E.var 6) (A.cons (E.var 7) A.nil)))) A.nil)))
    S.nil))
def bl_law_edges_2 : SM :=
  (S.seq (S.set 5 (E.lrng1 (E.var 1)))
    (S.fo (I.rng1 (A.cons (E.var 1) A.nil)) (G.name 6) bl_law_edges_1))
def b_law_edges : SM :=
  (S.seq (S.set 2 (E.op2 O.add (E.k (.int 2)) (E.callI 1 m_law_draw 0 (A.cons (E.k (.int 3)) A.nil))))
    (S.seq (S.set 3 (E.lst A.nil))
    (S.seq (S.fo (I.of (E.k (.str "abcd"))) (G.name 4) bl_law_edges_2)
    (S.ret (E.var 3)))))
def m_law_edges : List D → List D → Dx.Fr := Dx.runI 6 b_law_edges
-- 0 value
def b_is_integer : SM :=
  (S.ret (E.and (E.cb O.isa (A.cons (E.var 0) (A.cons (E.k (.ty "int")) A.nil))) (E.not (E.cb O.isa (A.cons (E.var 0) (A.cons (E.k (.ty "bool")) A.nil))))))
def m_is_integer : List D → Dx.Fr := Dx.runP 0 b_is_integer
-- 0 self, 1 value
def b_Graph_has_node : SM :=
  (S.ret (E.and (E.call 1 m_is_integer (A.cons (E.var 1) A.nil)) (E.chain O.le O.lt (E.k (.int 0)) (E.var 1) (E.fld "Graph" "node_count" (E.var 0)))))
def m_Graph_has_node : List D → Dx.Fr := Dx.runP 0 b_Graph_has_node
@[simp] def kg_Graph_has_node_2_ {α : Type} : List α → List α → List α
  | [y0, y1], [] => [y0, y1]
  | _, _ => []
theorem kg_Graph_has_node_2__gw {K : PySem.W.Frag} {mg : Str → Option Value} : GW K mg kg_Graph_has_node_2_ kg_Graph_has_node_2_ := by
  intro c F H σ ρ vs zs ds es p0 q0
  (cases p0 with | nil => exact .nil | cons e0 s0 p1 => (cases p1 with | nil => exact .nil | cons e1 s1 p2 => (cases p2 with | nil => (cases q0 with | nil => exact .cons e0 s0 (.cons e1 s1 (.nil)) | cons f r q => exact .nil) | cons e s p => exact .nil)))
-- 0 self, 1 edge, 2 letter, 3 source, 4 target
def b_Graph_accepts : SM :=
  (S.seq (S.ifs (T.or (T.not (T.val (E.cb O.isa (A.cons (E.var 1) (A.cons (E.k (.ty "tuple")) A.nil))))) (T.or (T.val (E.op2 O.ne (E.cb O.len (A.cons (E.var 1) A.nil)) (E.k (.int 3)))) (T.not (T.val (E.cb O.isa (A.cons (E.op2 O.ix (E.var 1) (E.k (.int 0))) (A.cons (E.k (.ty "str")) A.nil)))))))
    (S.ret (E.k (.bl false)))
    S.nil)
    (S.seq (S.asg (E.var 1) (G.tup 3 (G.cons (G.name 2) (G.cons (G.name 3) (G.cons (G.name 4) G.nil)))))
    (S.seq (S.ifs (T.or (T.val (E.op2 O.ne (E.cb O.len (A.cons (E.var 2) A.nil)) (E.k (.int 1)))) (T.or (T.val (E.op2 O.nin (E.var 2) (E.k (.str "abcd")))) (T.or (T.not (T.val (E.methD "Graph" "has_node" 2 m_Graph_has_node kg_Graph_has_node_2_ (E.var 0) (A.cons (E.var 3) A.nil) A.nil))) (T.not (T.val (E.methD "Graph" "has_node" 2 m_Graph_has_node kg_Graph_has_node_2_ (E.var 0) (A.cons (E.var 4) A.nil) A.nil))))))
    (S.ret (E.k (.bl false)))
    S.nil)
    (S.ret (E.and (E.op2 O.dni (E.tup (A.cons (E.var 3) (A.cons (E.var 2) A.nil))) (E.fld "Graph" "targets" (E.var 0))) (E.op2 O.dni (E.tup (A.cons (E.var 4) (A.cons (E.m0 M.upper (E.var 2)) A.nil))) (E.fld "Graph" "targets" (E.var 0))))))))
def m_Graph_accepts : List D → Dx.Fr := Dx.runP 3 b_Graph_accepts
@[simp] def kg_Graph_accepts_2_ {α : Type} : List α → List α → List α
  | [y0, y1], [] => [y0, y1]
  | _, _ => []
theorem kg_Graph_accepts_2__gw {K : PySem.W.Frag} {mg : Str → Option Value} : GW K mg kg_Graph_accepts_2_ kg_Graph_accepts_2_ := by
  intro c F H σ ρ vs zs ds es p0 q0
  (cases p0 with | nil => exact .nil | cons e0 s0 p1 => (cases p1 with | nil => exact .nil | cons e1 s1 p2 => (cases p2 with | nil => (cases q0 with | nil => exact .cons e0 s0 (.cons e1 s1 (.nil)) | cons f r q => exact .nil) | cons e s p => exact .nil)))
-- 0 self, 1 size, 2 edges, 3 index, 4 edge, 5 letter, 6 source, 7 target
def bl_Graph___init___1 : SM :=
  (S.seq (S.ifs (T.not (T.val (E.tmp [0] (E.methD "Graph" "accepts" 2 m_Graph_accepts kg_Graph_accepts_2_ (E.var 0) (A.cons (E.var 4) A.nil) A.nil))))
    (S.raise "InvalidGraph" ["index"] (A.cons (E.var 3) A.nil))
    S.nil)
    (S.seq (S.asg (E.var 4) (G.tup 3 (G.cons (G.name 5) (G.cons (G.name 6) (G.cons (G.name 7) G.nil)))))
    (S.seq (S.fdput "Graph" "targets" 0 (E.tup (A.cons (E.var 6) (A.cons (E.var 5) A.nil))) (E.var 7))
    (S.fdput "Graph" "targets" 0 (E.tup (A.cons (E.var 7) (A.cons (E.m0 M.upper (E.var 5)) A.nil))) (E.var 6)))))
def b_Graph___init__ : SM :=
  (S.seq (S.ifs (T.or (T.not (T.val (E.call 1 m_is_integer (A.cons (E.var 1) A.nil)))) (T.not (T.val (E.chain O.le O.le (E.k (.int 1)) (E.var 1) (E.k (.int 2000))))))
    (S.raise "InvalidNumber" ["value"] (A.cons (E.var 1) A.nil))
    S.nil)
    (S.seq (S.ifs (T.not (T.val (E.cb O.isa (A.cons (E.var 2) (A.cons (E.tup (A.cons (E.k (.ty "list")) (A.cons (E.k (.ty "tuple")) A.nil))) A.nil)))))
    (S.raise "InvalidGraph" ["index"] (A.cons (E.k .non) A.nil))
    S.nil)
    (S.seq (S.attr "Graph" "node_count" 0 (E.var 1))
    (S.seq (S.attr "Graph" "targets" 0 (E.dnew true))
    (S.fo (I.enum (A.cons (E.var 2) A.nil)) (G.tup 2 (G.cons (G.name 3) (G.cons (G.name 4) G.nil))) bl_Graph___init___1)))))
def m_Graph___init__ : List D → List Tr → Dx.FrO := Dx.runO [.io, .d, .d] 5 b_Graph___init__
@[simp] def kg_Graph___init___2_ {α : Type} : List α → List α → List α
  | [y0, y1], [] => [y0, y1]
  | _, _ => []
theorem kg_Graph___init___2__gw {K : PySem.W.Frag} {mg : Str → Option Value} : GW K mg kg_Graph___init___2_ kg_Graph___init___2_ := by
  intro c F H σ ρ vs zs ds es p0 q0
  (cases p0 with | nil => exact .nil | cons e0 s0 p1 => (cases p1 with | nil => exact .nil | cons e1 s1 p2 => (cases p2 with | nil => (cases q0 with | nil => exact .cons e0 s0 (.cons e1 s1 (.nil)) | cons f r q => exact .nil) | cons e s p => exact .nil)))
-- 0 _law_step
def b_law_back : SM :=
  (S.ret (E.op2 O.ix (E.k (.str "aAbBcCdD")) (E.op2 O.xor (E.m1 O.index (E.k (.str "aAbBcCdD")) (E.var 0)) (E.k (.int 1)))))
def m_law_back : List D → Dx.Fr := Dx.runP 0 b_law_back
-- 0 _law_edges_here, 1 _law_targets_here, 2 _law_letter, 3 _law_source, 4 _law_node
def bl_law_targets_1 : SM :=
  (S.seq (S.dput 1 (E.tup (A.cons (E.var 3) (A.cons (E.var 2) A.nil))) (E.var 4))
    (S.dput 1 (E.tup (A.cons (E.var 4) (A.cons (E.call 1 m_law_back (A.cons (E.var 2) A.nil)) A.nil))) (E.var 3)))
def b_law_targets : SM :=
  (S.seq (S.set 1 (E.dnew true))
    (S.seq (S.fo (I.of (E.var 0)) (G.tup 3 (G.cons (G.name 2) (G.cons (G.name 3) (G.cons (G.name 4) G.nil)))) bl_law_targets_1)
    (S.ret (E.var 1))))
def m_law_targets : List D → Dx.Fr := Dx.runP 4 b_law_targets
-- 0 self, 1 node, 2 step
def b_Graph_follow : SM :=
  (S.ret (E.dg2 (E.fld "Graph" "targets" (E.var 0)) (E.tup (A.cons (E.var 1) (A.cons (E.var 2) A.nil))) (E.k .non)))
def m_Graph_follow : List D → Dx.Fr := Dx.runP 0 b_Graph_follow
@[simp] def kg_Graph_follow_3_ {α : Type} : List α → List α → List α
  | [y0, y1, y2], [] => [y0, y1, y2]
  | _, _ => []
theorem kg_Graph_follow_3__gw {K : PySem.W.Frag} {mg : Str → Option Value} : GW K mg kg_Graph_follow_3_ kg_Graph_follow_3_ := by
  intro c F H σ ρ vs zs ds es p0 q0
  (cases p0 with | nil => exact .nil | cons e0 s0 p1 => (cases p1 with | nil => exact .nil | cons e1 s1 p2 => (cases p2 with | nil => exact .nil | cons e2 s2 p3 => (cases p3 with | nil => (cases q0 with | nil => exact .cons e0 s0 (.cons e1 s1 (.cons e2 s2 (.nil))) | cons f r q => exact .nil) | cons e s p => exact .nil))))
-- 0 self, 1 node, 2 step
def b_Graph_target : SM :=
  (S.seq (S.ifs (T.not (T.val (E.methD "Graph" "has_node" 2 m_Graph_has_node kg_Graph_has_node_2_ (E.var 0) (A.cons (E.var 1) A.nil) A.nil)))
    (S.raise "InvalidNode" ["value"] (A.cons (E.var 1) A.nil))
    S.nil)
    (S.seq (S.ifs (T.or (T.not (T.val (E.cb O.isa (A.cons (E.var 2) (A.cons (E.k (.ty "str")) A.nil))))) (T.or (T.val (E.op2 O.ne (E.cb O.len (A.cons (E.var 2) A.nil)) (E.k (.int 1)))) (T.val (E.op2 O.nin (E.var 2) (E.k (.str "aAbBcCdD"))))))
    (S.raise "InvalidPath" ["value"] (A.cons (E.var 2) A.nil))
    S.nil)
    (S.ret (E.methD "Graph" "follow" 3 m_Graph_follow kg_Graph_follow_3_ (E.var 0) (A.cons (E.var 1) (A.cons (E.var 2) A.nil)) A.nil))))
def m_Graph_target : List D → Dx.Fr := Dx.runP 0 b_Graph_target
@[simp] def kg_Graph_target_3_ {α : Type} : List α → List α → List α
  | [y0, y1, y2], [] => [y0, y1, y2]
  | _, _ => []
theorem kg_Graph_target_3__gw {K : PySem.W.Frag} {mg : Str → Option Value} : GW K mg kg_Graph_target_3_ kg_Graph_target_3_ := by
  intro c F H σ ρ vs zs ds es p0 q0
  (cases p0 with | nil => exact .nil | cons e0 s0 p1 => (cases p1 with | nil => exact .nil | cons e1 s1 p2 => (cases p2 with | nil => exact .nil | cons e2 s2 p3 => (cases p3 with | nil => (cases q0 with | nil => exact .cons e0 s0 (.cons e1 s1 (.cons e2 s2 (.nil))) | cons f r q => exact .nil) | cons e s p => exact .nil))))
-- 0 self, 1 node, 2 step
def ct_Graph_missing_1 : TM :=
  (T.val (E.op2 O.dni (E.tup (A.cons (E.var 1) (A.cons (E.var 2) A.nil))) (E.fld "Graph" "targets" (E.var 0))))
def ce_Graph_missing_1 : EM :=
  (E.tup (A.cons (E.var 1) (A.cons (E.var 2) A.nil)))
def b_Graph_missing : SM :=
  (S.ret (E.lc2 [1, 2] [2] (I.rng1 (A.cons (E.fld "Graph" "node_count" (E.var 0)) A.nil)) (G.name 1) T.yes (I.of (E.k (.str "aAbBcCdD"))) (G.name 2) ct_Graph_missing_1 ce_Graph_missing_1))
def m_Graph_missing : List D → Dx.Fr := Dx.runP 2 b_Graph_missing
@[simp] def kg_Graph_missing_1_ {α : Type} : List α → List α → List α
  | [y0], [] => [y0]
  | _, _ => []
theorem kg_Graph_missing_1__gw {K : PySem.W.Frag} {mg : Str → Option Value} : GW K mg kg_Graph_missing_1_ kg_Graph_missing_1_ := by
  intro c F H σ ρ vs zs ds es p0 q0
  (cases p0 with | nil => exact .nil | cons e0 s0 p1 => (cases p1 with | nil => (cases q0 with | nil => exact .cons e0 s0 (.nil) | cons f r q => exact .nil) | cons e s p => exact .nil))
-- 0 self
def b_Graph_is_complete : SM :=
  (S.ret (E.op2 O.eq (E.op1 O.lenD (E.fld "Graph" "targets" (E.var 0))) (E.op2 O.mul (E.fld "Graph" "node_count" (E.var 0)) (E.cb O.len (A.cons (E.k (.str "aAbBcCdD")) A.nil)))))
def m_Graph_is_complete : List D → Dx.Fr := Dx.runP 0 b_Graph_is_complete
@[simp] def kg_Graph_is_complete_1_ {α : Type} : List α → List α → List α
  | [y0], [] => [y0]
  | _, _ => []
theorem kg_Graph_is_complete_1__gw {K : PySem.W.Frag} {mg : Str → Option Value} : GW K mg kg_Graph_is_complete_1_ kg_Graph_is_complete_1_ := by
  intro c F H σ ρ vs zs ds es p0 q0
  (cases p0 with | nil => exact .nil | cons e0 s0 p1 => (cases p1 with | nil => (cases q0 with | nil => exact .cons e0 s0 (.nil) | cons f r q => exact .nil) | cons e s p => exact .nil))
-- 0 _law_graph, 1 _law_targets_here, 2 _law_size, 3 _law_absent, 4 _law_node, 5 _law_step, 6 _law_other, 7 _law_listed
def bl_law_agrees_1 : SM :=
  (S.seq (S.set 6 (E.methD "Graph" "target" 3 m_Graph_target kg_Graph_target_3_ (E.var 0) (A.cons (E.var 4) (A.cons (E.var 5) A.nil)) A.nil))
    (S.seq (S.ifs (T.val (E.op2 O.ne (E.cb O.repr (A.cons (E.var 6) A.nil)) (E.cb O.repr (A.cons (E.dg1 (E.var 1) (E.tup (A.cons (E.var 4) (A.cons (E.var 5) A.nil)))) A.nil))))
    (S.ret (E.k (.bl false)))
    S.nil)
    (S.ifs (T.val (E.op2 O.isN (E.var 6) (E.k .non)))
    (S.drop (E.lm LM.append 3 (A.cons (E.tup (A.cons (E.var 4) (A.cons (E.var 5) A.nil))) A.nil)))
    (S.ifs (T.val (E.op2 O.ne (E.cb O.repr (A.cons (E.methD "Graph" "target" 3 m_Graph_target kg_Graph_target_3_ (E.var 0) (A.cons (E.var 6) (A.cons (E.call 1 m_law_back (A.cons (E.var 5) A.nil)) A.nil)) A.nil) A.nil)) (E.cb O.repr (A.cons (E.var 4) A.nil))))
    (S.ret (E.k (.bl false)))
    S.nil))))
def bl_law_agrees_2 : SM :=
  (S.fo (I.of (E.k (.str "aAbBcCdD"))) (G.name 5) bl_law_agrees_1)
def b_law_agrees : SM :=
  (S.seq (S.set 3 (E.lst A.nil))
    (S.seq (S.fo (I.rng1 (A.cons (E.var 2) A.nil)) (G.name 4) bl_law_agrees_2)
    (S.seq (S.set 7 (E.methD "Graph" "missing" 1 m_Graph_missing kg_Graph_missing_1_ (E.var 0) A.nil A.nil))
    (S.seq (S.ifs (T.or (T.val (E.op2 O.ne (E.var 7) (E.var 3))) (T.val (E.op2 O.ne (E.cb O.repr (A.cons (E.methD "Graph" "is_complete" 1 m_Graph_is_complete kg_Graph_is_complete_1_ (E.var 0) A.nil A.nil) A.nil)) (E.cb O.repr (A.cons (E.op2 O.eq (E.var 3) (E.lst A.nil)) A.nil)))))
    (S.ret (E.k (.bl false)))
    S.nil)
    (S.seq (S.drop (E.lm LM.append 7 (A.cons (E.k .non) A.nil)))
    (S.ret (E.and (E.op2 O.eq (E.methD "Graph" "missing" 1 m_Graph_missing kg_Graph_missing_1_ (E.var 0) A.nil A.nil) (E.var 3)) (E.op2 O.eq (E.var 7) (E.op2 O.add (E.var 3) (E.lst (A.cons (E.k .non) A.nil)))))))))))
def m_law_agrees : List D → Dx.Fr := Dx.runP 5 b_law_agrees
-- 0 _law_graph, 1 _law_node, 2 _law_step, 3 e
def b_law_actual : SM :=
  (S.seq (S.tryS ["InvalidNode", "InvalidPath"]
    (S.drop (E.methD "Graph" "target" 3 m_Graph_target kg_Graph_target_3_ (E.var 0) (A.cons (E.var 1) (A.cons (E.var 2) A.nil)) A.nil))
    ((["InvalidNode"], some 3, (S.ret (E.lst (A.cons (E.k (.str "node")) (A.cons (E.cb O.repr (A.cons (E.xf "InvalidNode" "value" 3) A.nil)) (A.cons (E.and (E.isx "InvalidNode" true 3) (E.not (E.isx "InvalidNode" false 3))) A.nil)))))) :: ((["InvalidPath"], some 3, (S.ret (E.lst (A.cons (E.k (.str "step")) (A.cons (E.cb O.repr (A.cons (E.xf "InvalidPath" "value" 3) A.nil)) (A.cons (E.and (E.isx "InvalidPath" true 3) (E.isx "InvalidPath" true 3)) A.nil)))))) :: [])))
    (S.ret (E.lst (A.cons (E.k (.str "valid")) A.nil))))
def m_law_actual : List D → Dx.Fr := Dx.runP 1 b_law_actual
-- 0 _law_graph, 1 _law_size, 2 _law_bad, 3 _law_step
def bl_law_errors_1 : SM :=
  (S.ifs (T.val (E.op2 O.ne (E.call 3 m_law_actual (A.cons (E.var 0) (A.cons (E.var 2) (A.cons (E.var 3) A.nil)))) (E.lst (A.cons (E.k (.str "node")) (A.cons (E.cb O.repr (A.cons (E.var 2) A.nil)) (A.cons (E.k (.bl true)) A.nil))))))
    (S.ret (E.k (.bl false)))
    S.nil)
def bl_law_errors_2 : SM :=
  (S.fo (I.of (E.lst (A.cons (E.k (.str "a")) (A.cons (E.k (.str "e")) (A.cons (E.k .non) A.nil))))) (G.name 3) bl_law_errors_1)
def bl_law_errors_3 : SM :=
  (S.ifs (T.val (E.op2 O.ne (E.call 3 m_law_actual (A.cons (E.var 0) (A.cons (E.op2 O.sub (E.var 1) (E.k (.int 1))) (A.cons (E.var 2) A.nil)))) (E.lst (A.cons (E.k (.str "step")) (A.cons (E.cb O.repr (A.cons (E.var 2) A.nil)) (A.cons (E.k (.bl true)) A.nil))))))
    (S.ret (E.k (.bl false)))
    S.nil)
def b_law_errors : SM :=
  (S.seq (S.fo (I.of (E.lst (A.cons (E.op1 O.neg (E.k (.int 1))) (A.cons (E.var 1) (A.cons (E.k (.bl true)) (A.cons (E.k .non) (A.cons (E.k (.str "0")) (A.cons (E.tup (A.cons (E.k (.int 0)) A.nil)) (A.cons (E.lst (A.cons (E.k (.int 0)) A.nil)) (A.cons (E.op2 O.pow (E.k (.int 10)) (E.k (.int 20))) (A.cons (E.dnew false) (A.cons (E.tup (A.cons (E.k (.int 0)) (A.cons (E.lst A.nil) A.nil))) A.nil)))))))))))) (G.name 2) bl_law_errors_2)
    (S.seq (S.fo (I.of (E.lst (A.cons (E.k (.str "")) (A.cons (E.k (.str "ab")) (A.cons (E.k (.str "e")) (A.cons (E.k .non) (A.cons (E.k (.int 5)) (A.cons (E.lst (A.cons (E.k (.str "a")) A.nil)) (A.cons (E.k (.str "aA")) (A.cons (E.k (.str " ")) (A.cons (E.dnew false) (A.cons (E.tup (A.cons (E.k (.str "a")) (A.cons (E.lst A.nil) A.nil))) A.nil)))))))))))) (G.name 2) bl_law_errors_3)
    (S.ret (E.k (.bl true)))))
def m_law_errors : List D → Dx.Fr := Dx.runP 2 b_law_errors
-- 0 _law_script, 1 _law_index, 2 _law_pool_here, 3 _law_size, 4 _law_edges_here, 5 _law_graph, 6 _law_targets_here
def bl_law_1 : SM :=
  (S.seq (S.set 2 (E.call 2 m_law_pool (A.cons (E.var 0) (A.cons (E.var 1) A.nil))))
    (S.seq (S.set 3 (E.op2 O.add (E.k (.int 1)) (E.callI 1 m_law_draw 2 (A.cons (E.k (.int 6)) A.nil))))
    (S.seq (S.set 4 (E.callI 1 m_law_edges 2 (A.cons (E.var 3) A.nil)))
    (S.seq (S.set 5 (E.frz (E.mk "Graph" [.d, .d] m_Graph___init__ kg_Graph___init___2_ (A.cons (E.var 3) (A.cons (E.var 4) A.nil)) A.nil)))
    (S.seq (S.set 6 (E.call 1 m_law_targets (A.cons (E.var 4) A.nil)))
    (S.seq (S.ifs (T.or (T.not (T.val (E.call 3 m_law_agrees (A.cons (E.var 5) (A.cons (E.var 6) (A.cons (E.var 3) A.nil)))))) (T.not (T.val (E.call 2 m_law_errors (A.cons (E.var 5) (A.cons (E.var 3) A.nil))))))
    (S.ret (E.k (.bl false)))
    S.nil)
    (S.ifs (T.not (T.val (E.call 3 m_law_agrees (A.cons (E.var 5) (A.cons (E.var 6) (A.cons (E.var 3) A.nil))))))
    (S.ret (E.k (.bl false)))
    S.nil)))))))
def b_law : SM :=
  (S.seq (S.fo (I.rng1 (A.cons (E.cb O.max (A.cons (E.k (.int 1)) (A.cons (E.cb O.min (A.cons (E.k (.int 12)) (A.cons (E.cb O.len (A.cons (E.var 0) A.nil)) A.nil))) A.nil))) A.nil)) (G.name 1) bl_law_1)
    (S.ret (E.k (.bl true))))
def m_law : List D → Dx.Fr := Dx.runP 6 b_law
end
/-- the text of a list of codes -/
def S (l : List Nat) : Str := ⟨l.toArray⟩
theorem S_cps (l : List Nat) : (S l).cps.toList = l := by simp [S]
theorem S_len (l : List Nat) : (S l).length = l.length := by simp [S, Str.length]
theorem S_inj {l m : List Nat} (h : S l = S m) : l = m := by rw [← S_cps l, h, S_cps]
theorem S_of (z : Str) : z = S z.cps.toList := by cases z; simp [S]
theorem S_app (l m : List Nat) : S l ++ S m = S (l ++ m) := by
  show Str.append (S l) (S m) = _
  simp [Str.append, S]
theorem S_nil : (Str.ofString "") = S [] := by decide +kernel
theorem S_empty : Str.empty = S [] := rfl
def sg (c : Nat) : Str := S [c]
theorem sg_S (c : Nat) : (⟨#[c]⟩ : Str) = S [c] := rfl
theorem join_S : ∀ ls : List (List Nat), Txt.join (Str.ofString "") (ls.map S) = S ls.flatten := by
  intro ls
  rw [show ∀ (y : Str) (ps : List Str), Txt.join y ps = Str.join y ps from fun y ps => PySem.StrLaws.glued_eq_join y ps]
  induction ls with
  | nil => rfl
  | cons a r ih =>
    cases r with
    | nil => simp [Str.join]
    | cons b r =>
      show S a ++ Str.ofString "" ++ Str.join (Str.ofString "") ((b :: r).map S) = _
      rw [ih, S_nil, S_app, S_app]; simp
theorem join_sg (l : List Nat) : Txt.join (Str.ofString "") (l.map sg) = S l := by
  have := join_S (l.map fun c => [c])
  rw [List.map_map] at this
  rw [show (l.map sg) = l.map (S ∘ fun c => [c]) from rfl, this]
  congr 1
  clear this
  induction l with
  | nil => rfl
  | cons c r ih => rw [List.map_cons, List.flatten_cons, ih]; rfl
/-- a for that goes through -/
theorem forR_inv {B : D → SM} : ∀ (ds : List D) (I : Nat → Dx.Env → Prop) (k : Nat) (ρ : Dx.Env), I k ρ →
    (∀ i d ρ, ds[i]? = some d → I (k + i) ρ → ∃ ρ', B d ρ = .ok .nx ρ' ∧ I (k + i + 1) ρ') → ∃ ρ', forR B ds ρ = .ok .nx ρ' ∧ I (k + ds.length) ρ'
  | [], I, k, ρ, h0, hs => ⟨ρ, rfl, h0⟩
  | d :: ds, I, k, ρ, h0, hs => by
    obtain ⟨ρ1, e1, h1⟩ := hs 0 d ρ rfl h0
    obtain ⟨ρ2, e2, h2⟩ := forR_inv ds I (k + 1) ρ1 h1 (fun i d' ρ' hd hi => by
      have := hs (i + 1) d' ρ' (by simpa using hd) (by rw [show k + (i + 1) = k + 1 + i by omega]; exact hi)
      rw [show k + (i + 1) + 1 = k + 1 + i + 1 by omega] at this
      exact this)
    refine ⟨ρ2, ?_, by rw [List.length_cons, show k + (ds.length + 1) = k + 1 + ds.length by omega]; exact h2⟩
    rw [forR, e1]
    exact e2
theorem forR_map {B : D → SM} {α β : Type} {f : α → D} {mk : β → Dx.Env} {g : β → α → β} : ∀ (xs : List α) (b : β), (∀ a ∈ xs, ∀ b, B (f a) (mk b) = .ok .nx (mk (g b a))) → forR B (xs.map f) (mk b) = .ok .nx (mk (xs.foldl g b))
  | [], _, _ => rfl
  | a :: xs, b, h => by
    rw [List.map_cons, forR, h a List.mem_cons_self b, List.foldl_cons]
    exact forR_map xs (g b a) fun a' ha b' => h a' (List.mem_cons_of_mem _ ha) b'
/-- a comprehension whose turns give h a and leave the slots -/
theorem lcR_map {vs : List Nat} {g : GM} {t : TM} {e : EM} {ρ : Dx.Env} {α : Type} {f h : α → D} : ∀ (xs : List α), (∀ a ∈ xs, lcR vs g t e [f a] ρ = .ok [h a] ρ) → lcR vs g t e (xs.map f) ρ = .ok (xs.map h) ρ
  | [], _ => rfl
  | a :: xs, hh => by
    have h1 := hh a List.mem_cons_self
    have ih := lcR_map (f := f) (h := h) xs fun a' ha => hh a' (List.mem_cons_of_mem _ ha)
    rw [List.map_cons, List.map_cons]
    rw [lcR] at h1 ⊢
    cases eg : g (f a) ρ with
    | none => rw [eg] at h1; cases h1
    | some ρ1 =>
      rw [eg] at h1
      dsimp only [onL] at h1 ⊢
      cases et : noX (t ρ1) with
      | bad => rw [et] at h1; cases h1
      | ex _ _ _ => rw [et] at h1; cases h1
      | ok b ρ2 =>
        rw [et] at h1
        dsimp only [Z.bind] at h1 ⊢
        cases b with
        | false => simp at h1
        | true =>
          rw [if_pos rfl] at h1 ⊢
          cases ee : noX (e ρ2) with
          | bad => rw [ee] at h1; cases h1
          | ex _ _ _ => rw [ee] at h1; cases h1
          | ok w ρ3 =>
            rw [ee] at h1
            dsimp only [Z.bind] at h1 ⊢
            cases ef : fz w ρ3 with
            | bad => rw [ef] at h1; cases h1
            | ex _ _ _ => rw [ef] at h1; cases h1
            | ok y ρ4 =>
              rw [ef] at h1
              simp only [Z.bind, lcR] at h1 ⊢
              injection h1 with h1 h2
              rw [h2, ih]
              simp only [Z.bind]
              rw [List.cons.inj h1 |>.1]
/-- a comprehension that carries a state -/
theorem lcR_inv {vs : List Nat} {g : GM} {t : TM} {e : EM} : ∀ (ds : List D) (I : Nat → Dx.Env → List D → Prop) (k : Nat) (ρ : Dx.Env) (ys : List D), I k ρ ys →
    (∀ i d ρ ys, ds[i]? = some d → I (k + i) ρ ys → ∃ zs ρ', lcR vs g t e [d] ρ = .ok zs ρ' ∧ I (k + i + 1) ρ' (ys ++ zs)) → ∃ zs ρ', lcR vs g t e ds ρ = .ok zs ρ' ∧ I (k + ds.length) ρ' (ys ++ zs)
  | [], I, k, ρ, ys, h0, hs => ⟨[], ρ, rfl, by simpa using h0⟩
  | d :: ds, I, k, ρ, ys, h0, hs => by
    obtain ⟨z1, ρ1, e1, h1⟩ := hs 0 d ρ ys rfl h0
    obtain ⟨z2, ρ2, e2, h2⟩ := lcR_inv ds I (k + 1) ρ1 (ys ++ z1) h1 (fun i d' ρ' ys' hd hi => by
      have := hs (i + 1) d' ρ' ys' (by simpa using hd) (by rw [show k + (i + 1) = k + 1 + i by omega]; exact hi)
      rw [show k + (i + 1) + 1 = k + 1 + i + 1 by omega] at this
      exact this)
    refine ⟨z1 ++ z2, ρ2, ?_, by rw [List.length_cons, show k + (ds.length + 1) = k + 1 + ds.length by omega, ← List.append_assoc]; exact h2⟩
    rw [lcR] at e1 ⊢
    cases eg : g d ρ with
    | none => rw [eg] at e1; cases e1
    | some ρ3 =>
      rw [eg] at e1
      dsimp only [onL] at e1 ⊢
      cases et : noX (t ρ3) with
      | bad => rw [et] at e1; cases e1
      | ex _ _ _ => rw [et] at e1; cases e1
      | ok b ρ4 =>
        rw [et] at e1
        dsimp only [Z.bind] at e1 ⊢
        cases b with
        | false => simp [lcR] at e1; obtain ⟨rfl, rfl⟩ := e1; simpa using e2
        | true =>
          rw [if_pos rfl] at e1 ⊢
          cases ee : noX (e ρ4) with
          | bad => rw [ee] at e1; cases e1
          | ex _ _ _ => rw [ee] at e1; cases e1
          | ok w ρ5 =>
            rw [ee] at e1
            dsimp only [Z.bind] at e1 ⊢
            cases ef : fz w ρ5 with
            | bad => rw [ef] at e1; cases e1
            | ex _ _ _ => rw [ef] at e1; cases e1
            | ok y ρ6 =>
              rw [ef] at e1
              simp only [Z.bind, lcR] at e1 ⊢
              injection e1 with e1 e3
              subst e1 e3
              rw [e2]
              rfl
/-- a text by its codes -/
abbrev tS (l : List Nat) : D := .str (S l)
@[simp] theorem sg_fold (c : Nat) : (⟨#[c]⟩ : Str) = S [c] := rfl
theorem items_tS (l : List Nat) : itemsOf (tS l) = some (l.map fun c => tS [c]) := by
  show itemsOf (.str (S l)) = _
  simp only [itemsOf, S_cps]; rfl
theorem strs_tS : ∀ ls : List (List Nat), strsOf (ls.map tS) = some (ls.map S)
  | [] => rfl
  | l :: ls => by rw [List.map_cons, show tS l = D.str (S l) from rfl, strsOf, strs_tS ls]; rfl
theorem bls_map : ∀ bs : List Bool, blsOf (bs.map D.bl) = some bs
  | [] => rfl
  | b :: bs => by rw [List.map_cons, blsOf, bls_map bs]; rfl
theorem ints_map : ∀ bs : List Int, intsOf (bs.map D.int) = some bs
  | [] => rfl
  | b :: bs => by rw [List.map_cons, intsOf, ints_map bs]; rfl
theorem S_inj_iff {l m : List Nat} : S l = S m ↔ l = m := ⟨S_inj, fun h => by rw [h]⟩
theorem atI_at {α : Type} {xs : List α} {j : Nat} {x : α} (h : xs[j]? = some x) : atI xs (j : Int) = some x := by
  have l := (List.getElem?_eq_some_iff.mp h).1
  unfold atI ixN
  rw [if_pos (by omega), if_pos (by omega)]
  simpa using h
theorem atI_last {α : Type} (xs : List α) (x : α) : atI (xs ++ [x]) (-1) = some x := by
  unfold atI ixN
  rw [if_neg (by decide), if_pos (by rw [List.length_append]; simp; omega)]
  rw [show ((-1 : Int) + ((xs ++ [x]).length : Nat)).toNat = xs.length by rw [List.length_append]; simp; omega]
  simp
theorem join0 (ls : List (List Nat)) : Txt.join (Str.ofString "") (ls.map S) = S ls.flatten := join_S ls
@[simp high] theorem andR_if (b : EM) (x : Bool) (ρ : Dx.Env) : E.andR b (.t (.bl x)) ρ = if x = true then b ρ else .ok (.t (.bl false)) ρ := by cases x <;> rfl
@[simp high] theorem orR_if (b : EM) (x : Bool) (ρ : Dx.Env) : E.orR b (.t (.bl x)) ρ = if x = true then .ok (.t (.bl true)) ρ else b ρ := by cases x <;> rfl
@[simp] theorem chR_if (b : Dx.Env → Z W) (x : Bool) (ρ : Dx.Env) : E.chR b (some (.t (.bl x))) ρ = if x = true then b ρ else .ok (.t (.bl false)) ρ := by cases x <;> rfl
@[simp] theorem upD_len (lo : Int) (n : Nat) : (I.upD lo n).length = n := by simp [I.upD]
@[simp] theorem dnD_len (lo : Int) (n : Nat) : (I.dnD lo n).length = n := by simp [I.dnD]
theorem upD_at {lo : Int} {n i : Nat} {d : D} (h : (I.upD lo n)[i]? = some d) : i < n ∧ d = .int (lo + (i : Nat)) := by
  unfold I.upD at h
  rw [List.getElem?_map] at h
  by_cases l : i < n
  · rw [List.getElem?_range l] at h; cases h; exact ⟨l, rfl⟩
  · rw [List.getElem?_eq_none (by simp; omega)] at h; cases h
theorem flat_len {ls : List (List Nat)} {m : Nat} (h : ∀ l ∈ ls, l.length ≤ m) : ls.flatten.length ≤ ls.length * m := by
  induction ls with
  | nil => simp
  | cons a r ih =>
    rw [List.flatten_cons, List.length_append, List.length_cons, Nat.succ_mul]
    have := h a List.mem_cons_self
    have := ih fun l hl => h l (List.mem_cons_of_mem _ hl)
    omega
/-- the pool of drawn numbers -/
def Pool (ds : List D) : Prop := ∃ x y : Int, ds = [.int x, .int y] ∧ 0 ≤ x ∧ 0 ≤ y ∧ y < 2147483647
theorem draw_ok {ds : List D} (h : Pool ds) (n : Nat) (h1 : 1 ≤ n) (h2 : n < 1073741824) : ∃ (d : Nat) (ds' : List D), d < n ∧ Pool ds' ∧ m_law_draw ds [.int n] = .ok (.t (.int d)) ds' := by
  obtain ⟨x, y, rfl, hx, hy, hy2⟩ := h
  have ex : atI [D.int x, D.int y] 0 = some (.int x) := rfl
  have ey : ∀ z, atI [D.int z, D.int y] 1 = some (.int y) := fun _ => rfl
  have n0 : (0 : Int) < n := by omega
  by_cases hp : 0 < x
  · have m0 := Int.emod_nonneg x (show (n : Int) ≠ 0 by omega)
    have m1 := Int.emod_lt_of_pos x n0
    obtain ⟨d, hd⟩ := Int.eq_ofNat_of_zero_le m0
    refine ⟨d, [.int (x / n), .int y], by omega, ⟨x / n, y, rfl, Int.ediv_nonneg hx (by omega), hy, hy2⟩, ?_⟩
    simp [m_law_draw, b_law_draw, ex, hp, n0, hd, show 0 < n by omega, h2, show (n : Int) < 1073741824 by omega]
  · have x0 : x = 0 := by omega
    subst x0
    have q0 := Int.emod_nonneg (y * 48271 + 12345) (show (2147483647 : Int) ≠ 0 by decide)
    have q1 := Int.emod_lt_of_pos (y * 48271 + 12345) (show (0 : Int) < 2147483647 by decide)
    generalize hq : (y * 48271 + 12345) % 2147483647 = q at q0 q1
    have m0 := Int.emod_nonneg (q * q % 2147483629 / 64) (show (n : Int) ≠ 0 by omega)
    have m1 := Int.emod_lt_of_pos (q * q % 2147483629 / 64) n0
    obtain ⟨d, hd⟩ := Int.eq_ofNat_of_zero_le m0
    refine ⟨d, [.int 0, .int q], by omega, ⟨0, q, rfl, hx, q0, q1⟩, ?_⟩
    have eq0 : atI [D.int 0, D.int q] 1 = some (.int q) := rfl
    simp [m_law_draw, b_law_draw, ex, ey, eq0, hq, n0, hd, show 0 < n by omega, h2, show -18446744073709551616 < q by omega, show q < 18446744073709551616 by omega]
theorem cutD_ints (ns : List Int) (lo hi : Option Int) : ∃ ms : List Int, ms.length ≤ ns.length ∧ Dx.cutD (ns.map D.int) lo hi = ms.map D.int :=
  ⟨(ns.drop (HT.sIx (ns.map D.int).length 0 lo)).take _, Nat.le_trans (List.length_take_le' ..) (by rw [List.length_drop]; omega), by unfold Dx.cutD; rw [← List.map_drop, ← List.map_take]⟩
theorem at0_ints (ms : List Int) : ∃ c : Int, atI (ms.map D.int ++ [D.int 0]) 0 = some (.int c) := by
  cases ms with
  | nil => exact ⟨0, rfl⟩
  | cons m ms => exact ⟨m, atI_at (j := 0) rfl⟩
theorem pool_ok (ns : List Int) (h : ns.length ≤ 63) (k : Nat) (hk : k ≤ 100) : ∃ ds, Pool ds ∧ m_law_pool [.scr (ns.map D.int), .int k] = .ok (.f ds) [] := by
  obtain ⟨ms, lm, em⟩ := cutD_ints ns (some k) (some ((k : Int) + 1))
  obtain ⟨c, ec⟩ := at0_ints ms
  have k2 : (7919 : Int) * k ≤ 791900 := by omega
  have kk : (7919 : Int) * k * k ≤ 79190000 := by
    exact Int.le_trans (Int.mul_le_mul (a := 7919 * (k : Int)) (c := 791900) (b := (k : Int)) (d := 100) k2 (by omega) (by omega) (by omega)) (by decide)
  have kk0 : (0 : Int) ≤ 7919 * k * k := Int.mul_nonneg (by omega) (by omega)
  generalize hn : Max.max c (-1 - c) = n
  have n0 : 0 ≤ n := by omega
  have a0 := Int.emod_nonneg n (show (2147483629 : Int) ≠ 0 by decide)
  have a1 := Int.emod_lt_of_pos n (show (0 : Int) < 2147483629 by decide)
  generalize ha : n % 2147483629 = a at a0 a1
  generalize hp : (7919 : Int) * k * k = p at kk kk0
  have b0 := Int.emod_nonneg ((a + p + 31 * (k : Int) + 17) * 48271) (show (2147483647 : Int) ≠ 0 by decide)
  have b1 := Int.emod_lt_of_pos ((a + p + 31 * (k : Int) + 17) * 48271) (show (0 : Int) < 2147483647 by decide)
  generalize hb : (a + p + 31 * (k : Int) + 17) * 48271 % 2147483647 = b at b0 b1
  have d0 := Int.emod_nonneg (b * b) (show (2147483629 : Int) ≠ 0 by decide)
  have d1 := Int.emod_lt_of_pos (b * b) (show (0 : Int) < 2147483629 by decide)
  generalize hd : b * b % 2147483629 = d at d0 d1
  refine ⟨[.int (n * (if decide ((1000000000000000000 : Int) ≤ n) = true then 1 else 0)), .int d], ⟨_, d, rfl, ?_, d0, by omega⟩, ?_⟩
  · split <;> omega
  · have lt1 : (-18446744073709551616 : Int) < 7919 * k := by omega
    have lt2 : (7919 : Int) * k < 18446744073709551616 := by omega
    by_cases g : (1000000000000000000 : Int) ≤ n
    · simp [m_law_pool, b_law_pool, em, ec, hn, ha, hp, hb, hd, lm, Nat.le_trans (Nat.add_le_add_right lm 1), show ms.length + 1 ≤ 16000000 by omega, lt1, lt2, show (-18446744073709551616 : Int) < b by omega, show b < (18446744073709551616 : Int) by omega, g]
    · simp [m_law_pool, b_law_pool, em, ec, hn, ha, hp, hb, hd, lm, show ms.length + 1 ≤ 16000000 by omega, lt1, lt2, show (-18446744073709551616 : Int) < b by omega, show b < (18446744073709551616 : Int) by omega, g]
/-- the codes of the steps, in order -/
def stepC : List Nat := [97, 65, 98, 66, 99, 67, 100, 68]
theorem stepsS : (Str.ofString "aAbBcCdD") = S stepC := by decide +kernel
/-- a path: codes of steps -/
def IsP (l : List Nat) : Prop := ∀ c ∈ l, c ∈ stepC
theorem IsP.nil : IsP [] := fun _ h => by cases h
theorem IsP.app {l m : List Nat} (h : IsP l) (k : IsP m) : IsP (l ++ m) := fun c hc => (List.mem_append.mp hc).elim (h c) (k c)
theorem IsP.one {c : Nat} (h : c ∈ stepC) : IsP [c] := fun d hd => by rw [List.mem_singleton] at hd; subst hd; exact h
/-- the step at a place below eight -/
theorem step_at {d : Nat} (h : d < 8) : ∃ c, c ∈ stepC ∧ stepC[d]? = some c := ⟨stepC[d]'h, List.getElem_mem _, List.getElem?_eq_getElem h⟩
theorem lit0 : (Str.ofString "") = S [] := by decide +kernel
theorem joinT (ls : List (List Nat)) : Txt.join (Str.ofString "") (ls.map S) = S ls.flatten := join_S ls
theorem len_flat1 : ∀ l : List Nat, (l.map fun c => [c]).flatten = l
  | [] => rfl
  | c :: l => by rw [List.map_cons, List.flatten_cons, len_flat1 l]; rfl
theorem sum_len1 : ∀ l : List Nat, ((l.map fun c => S [c]).map (·.length)).sum = l.length
  | [] => rfl
  | c :: l => by rw [List.map_cons, List.map_cons, List.sum_cons, sum_len1 l, S_len]; simp; omega
theorem strs_sg (l : List Nat) : strsOf (l.map fun c => tS [c]) = some (l.map fun c => S [c]) := by
  have := strs_tS (l.map fun c => [c])
  rw [List.map_map, List.map_map] at this
  exact this
theorem join_sgs (l : List Nat) : Txt.join (Str.ofString "") (l.map fun c => S [c]) = S l := by
  have := joinT (l.map fun c => [c])
  rw [List.map_map, len_flat1] at this
  exact this
theorem join_sg_ok (l : List Nat) (h : l.length ≤ 1000000) : O.join (.str (Str.ofString "")) [.lst (l.map fun c => tS [c])] = some (.t (tS l)) := by
  rw [q_O_join_1, strs_sg]
  simp only [sum_len1]
  rw [if_pos (by rw [lit0, S_len]; simp; omega), join_sgs]; rfl
theorem step_ix {d : Nat} (h : d < 8) : ∃ c, c ∈ stepC ∧ O.ix (.str (Str.ofString "aAbBcCdD")) (.int d) = some (.t (tS [c])) := by
  obtain ⟨c, hc, e⟩ := step_at h
  refine ⟨c, hc, ?_⟩
  rw [q_O_ix_4, stepsS, S_cps, if_pos (by rw [S_len]; decide), atI_at e]; rfl
/-- the other case of a letter -/
def sw (c : Nat) : Nat := if 65 ≤ c ∧ c ≤ 90 then c + 32 else if 97 ≤ c ∧ c ≤ 122 then c - 32 else c
theorem sw_sw (c : Nat) : sw (sw c) = c := by
  unfold sw
  split
  · rw [if_neg (by omega), if_pos (by omega)]; omega
  · split
    · rw [if_pos (by omega)]; omega
    · rfl
theorem sw_inj {c d : Nat} (h : sw c = sw d) : c = d := by rw [← sw_sw c, h, sw_sw]
theorem sw_eq {c d : Nat} (h : c = sw d) : d = sw c := by rw [h, sw_sw]
theorem sw_step : ∀ c ∈ stepC, sw c ∈ stepC := by decide +kernel
theorem sw_lt : ∀ c ∈ stepC, c < 128 := by decide +kernel
theorem step_ok {l : List Nat} (h : IsP l) : ((S l).cps.all fun c => decide (c < 0x110000)) = true := by
  rw [← Array.all_toList, S_cps, List.all_eq_true]
  exact fun c hc => decide_eq_true (by have := sw_lt c (h c hc); omega)
/-- a letter laid upon a stack, or cancelled with the last one -/
def push : List Nat → Nat → List Nat
  | [], c => [c]
  | x :: r, c => if x = sw c then r else c :: x :: r
theorem push_cons (x : Nat) (r : List Nat) (c : Nat) : push (x :: r) c = if x = sw c then r else c :: x :: r := rfl
def runP (st : List Nat) (l : List Nat) : List Nat := l.foldl push st
/-- the free reduction -/
def red (l : List Nat) : List Nat := (runP [] l).reverse
/-- no letter beside its inverse -/
def Rd : List Nat → Prop
  | [] => True
  | [_] => True
  | x :: y :: r => x ≠ sw y ∧ Rd (y :: r)
theorem Rd.tail {x : Nat} {r : List Nat} (h : Rd (x :: r)) : Rd r := by
  cases r with
  | nil => trivial
  | cons y r => exact h.2
theorem Rd.drop {a b : List Nat} (h : Rd (a ++ b)) : Rd b := by
  induction a with
  | nil => exact h
  | cons x r ih => exact ih h.tail
theorem Rd.push {st : List Nat} (h : Rd st) (c : Nat) : Rd (push st c) := by
  cases st with
  | nil => trivial
  | cons x r =>
    rw [push_cons]
    split
    · exact h.tail
    · rename_i n
      exact ⟨fun e => n (sw_eq e), h⟩
theorem Rd.run {st : List Nat} (h : Rd st) (l : List Nat) : Rd (runP st l) := by
  induction l generalizing st with
  | nil => exact h
  | cons c r ih => exact ih (h.push c)
theorem push_back {st : List Nat} (h : Rd st) (c : Nat) : push (push st c) (sw c) = st := by
  cases st with
  | nil => simp [push, sw_sw]
  | cons x r =>
    by_cases e : x = sw c
    · rw [push, if_pos e]
      cases r with
      | nil => rw [push, e]
      | cons y r =>
        rw [push, if_neg, e]
        intro q
        rw [sw_sw] at q
        exact h.1 (by rw [e, q])
    · rw [push, if_neg e, push, if_pos (by rw [sw_sw])]
theorem run_pair {st : List Nat} (h : Rd st) (c : Nat) (l : List Nat) : runP st (c :: sw c :: l) = runP st l := by
  show runP (push (push st c) (sw c)) l = _
  rw [push_back h]
theorem runP_app (st l m : List Nat) : runP st (l ++ m) = runP (runP st l) m := List.foldl_append
theorem red_pair (a b : List Nat) (c : Nat) : red (a ++ c :: sw c :: b) = red (a ++ b) := by
  unfold red
  rw [runP_app, run_pair (Rd.run (st := []) trivial a), ← runP_app]
/-- the letters of what is left are the path's -/
theorem runP_mem {st l : List Nat} {c : Nat} (h : c ∈ runP st l) : c ∈ st ∨ c ∈ l := by
  induction l generalizing st with
  | nil => exact .inl h
  | cons d r ih =>
    rcases ih (st := push st d) h with q | q
    · cases st with
      | nil => rw [push, List.mem_singleton] at q; exact .inr (by rw [q]; exact List.mem_cons_self)
      | cons x t =>
        rw [push_cons] at q
        split at q
        · exact .inl (List.mem_cons_of_mem _ q)
        · rcases List.mem_cons.mp q with q | q
          · exact .inr (by rw [q]; exact List.mem_cons_self)
          · exact .inl q
    · exact .inr (List.mem_cons_of_mem _ q)
theorem IsP.run {l : List Nat} (h : IsP l) : IsP (runP [] l) := fun c hc => by
  rcases runP_mem hc with q | q
  · cases q
  · exact h c q
theorem IsP.red {l : List Nat} (h : IsP l) : IsP (red l) := fun c hc => h.run c (List.mem_reverse.mp hc)
theorem push_len (st : List Nat) (c : Nat) : (push st c).length ≤ st.length + 1 := by
  cases st with
  | nil => simp [push]
  | cons x r => rw [push_cons]; split <;> simp <;> omega
theorem runP_len (st l : List Nat) : (runP st l).length ≤ st.length + l.length := by
  induction l generalizing st with
  | nil => exact Nat.le_refl _
  | cons c r ih =>
    have h1 := ih (st := push st c)
    have h2 := push_len st c
    show (runP (push st c) r).length ≤ _
    rw [List.length_cons]; omega
theorem red_len (l : List Nat) : (red l).length ≤ l.length := by
  have := runP_len [] l
  unfold red
  rw [List.length_reverse]
  simpa using this
/-- reduced lists, the other way round -/
theorem Rd.snoc {l : List Nat} {x y : Nat} (h : Rd (l ++ [x])) (n : x ≠ sw y) : Rd (l ++ [x, y]) := by
  induction l with
  | nil => exact ⟨n, trivial⟩
  | cons a r ih =>
    cases r with
    | nil => exact ⟨h.1, n, trivial⟩
    | cons b r => exact ⟨h.1, ih h.2⟩
theorem Rd.rev {l : List Nat} (h : Rd l) : Rd l.reverse := by
  induction l with
  | nil => trivial
  | cons a r ih =>
    cases r with
    | nil => trivial
    | cons b r =>
      have h1 := ih h.2
      rw [List.reverse_cons] at h1 ⊢
      rw [List.reverse_cons, List.append_assoc]
      exact Rd.snoc h1 fun e => h.1 (sw_eq e)
theorem Rd_red (l : List Nat) : Rd (red l) := (Rd.run (st := []) trivial l).rev
theorem run_rd : ∀ (l st : List Nat), Rd (l.reverse ++ st) → runP st l = l.reverse ++ st
  | [], _, _ => rfl
  | c :: r, st, h => by
    rw [List.reverse_cons, List.append_assoc] at h
    have hc : Rd (c :: st) := Rd.drop (a := r.reverse) (b := c :: st) h
    have e : push st c = c :: st := by
      cases st with
      | nil => rfl
      | cons x t => rw [push, if_neg fun q => hc.1 (sw_eq q)]
    show runP (push st c) r = _
    rw [e, run_rd r (c :: st) h, List.reverse_cons, List.append_assoc]; rfl
theorem red_rd {l : List Nat} (h : Rd l) : red l = l := by
  unfold red
  rw [run_rd l [] (by rw [List.append_nil]; exact h.rev), List.append_nil, List.reverse_reverse]
theorem red_red (l : List Nat) : red (red l) = red l := red_rd (Rd_red l)
/-- free equality -/
inductive Fr : List Nat → List Nat → Prop
  | refl (l) : Fr l l
  | pair (a : List Nat) (c : Nat) (b : List Nat) : Fr (a ++ c :: sw c :: b) (a ++ b)
  | symm {l m} : Fr l m → Fr m l
  | trans {l m n} : Fr l m → Fr m n → Fr l n
theorem Fr.red {l m : List Nat} (h : Fr l m) : red l = red m := by
  induction h with
  | refl => rfl
  | pair a c b => exact red_pair a b c
  | symm _ ih => exact ih.symm
  | trans _ _ h1 h2 => exact h1.trans h2
theorem Fr.run : ∀ (l st : List Nat), Fr (st.reverse ++ l) (runP st l).reverse
  | [], st => by rw [List.append_nil]; exact .refl _
  | c :: r, st => by
    refine .trans ?_ (Fr.run r (push st c))
    cases st with
    | nil => exact .refl _
    | cons x t =>
      rw [push_cons]
      split
      · rename_i e
        have h := Fr.pair t.reverse x r
        rw [show sw x = c by rw [e, sw_sw]] at h
        rw [List.reverse_cons, List.append_assoc]
        exact h
      · simp only [List.reverse_cons, List.append_assoc]
        exact .refl _
theorem Fr.self (l : List Nat) : Fr l (Pf.red l) := Fr.run l []
theorem Fr.of_red {l m : List Nat} (h : Pf.red l = Pf.red m) : Fr l m := (Fr.self l).trans (h ▸ (Fr.self m).symm)
theorem Fr.left (k : List Nat) {l m : List Nat} (h : Fr l m) : Fr (k ++ l) (k ++ m) := by
  induction h with
  | refl => exact .refl _
  | pair a c b => rw [← List.append_assoc, ← List.append_assoc]; exact .pair _ _ _
  | symm _ ih => exact ih.symm
  | trans _ _ h1 h2 => exact h1.trans h2
theorem Fr.right (k : List Nat) {l m : List Nat} (h : Fr l m) : Fr (l ++ k) (m ++ k) := by
  induction h with
  | refl => exact .refl _
  | pair a c b => rw [List.append_assoc, List.append_assoc]; exact .pair _ _ _
  | symm _ ih => exact ih.symm
  | trans _ _ h1 h2 => exact h1.trans h2
theorem Fr.app {l m l' m' : List Nat} (h : Fr l m) (h' : Fr l' m') : Fr (l ++ l') (m ++ m') := (h.right _).trans (h'.left _)
/-- the inverse -/
def inv (l : List Nat) : List Nat := l.reverse.map sw
theorem inv_app (l m : List Nat) : inv (l ++ m) = inv m ++ inv l := by unfold inv; rw [List.reverse_append, List.map_append]
theorem inv_inv (l : List Nat) : inv (inv l) = l := by
  unfold inv
  rw [← List.map_reverse, List.reverse_reverse, List.map_map]
  rw [show sw ∘ sw = id from funext sw_sw, List.map_id]
theorem IsP.inv {l : List Nat} (h : IsP l) : IsP (inv l) := fun c hc => by
  obtain ⟨d, hd, rfl⟩ := List.mem_map.mp hc
  exact sw_step d (h d (List.mem_reverse.mp hd))
theorem inv_len (l : List Nat) : (inv l).length = l.length := by simp [inv]
theorem Fr.inv {l m : List Nat} (h : Fr l m) : Fr (inv l) (inv m) := by
  induction h with
  | refl => exact .refl _
  | pair a c b =>
    rw [inv_app, inv_app]
    have : Pf.inv (c :: sw c :: b) = Pf.inv b ++ c :: [sw c] := by
      unfold Pf.inv
      simp [sw_sw]
    rw [this, List.append_assoc]
    exact .pair _ _ _
  | symm _ ih => exact ih.symm
  | trans _ _ h1 h2 => exact h1.trans h2
theorem Rd.map_sw {l : List Nat} (h : Rd l) : Rd (l.map sw) := by
  induction l with
  | nil => trivial
  | cons a r ih =>
    cases r with
    | nil => trivial
    | cons b r => exact ⟨fun e => h.1 (sw_inj e), ih h.2⟩
theorem Rd.inv {l : List Nat} (h : Rd l) : Rd (inv l) := h.rev.map_sw
theorem red_inv (l : List Nat) : red (inv l) = inv (red l) := by
  rw [(Fr.self l).inv.red, red_rd (Rd_red l).inv]
theorem Fr.cancel (l : List Nat) : Fr (l ++ Pf.inv l) [] := by
  induction l with
  | nil => exact .refl _
  | cons c r ih =>
    have : Pf.inv (c :: r) = Pf.inv r ++ [sw c] := by simp [Pf.inv]
    rw [this]
    have h := (ih.right [sw c]).left [c]
    rw [List.append_assoc] at h
    exact h.trans (.pair [] c [])
theorem rd_iff (l : List Nat) : Rd l ↔ red l = l := ⟨red_rd, fun h => h ▸ Rd_red l⟩
/-- no pair stands anywhere -/
theorem rd_of_at : ∀ {l : List Nat}, (∀ (i : Nat) (x y : Nat), l[i]? = some x → l[i + 1]? = some y → x ≠ sw y) → Rd l
  | [], _ => trivial
  | [_], _ => trivial
  | x :: y :: r, h => ⟨h 0 x y rfl rfl, rd_of_at fun i a b ha hb => h (i + 1) a b ha hb⟩
theorem rd_at : ∀ {l : List Nat} {i x y : Nat}, Rd l → l[i]? = some x → l[i + 1]? = some y → x ≠ sw y
  | [], _, _, _, _, h, _ => by simp at h
  | [_], 0, _, _, _, _, h => by simp at h
  | [_], i + 1, _, _, _, h, _ => by simp at h
  | a :: b :: r, 0, x, y, h, h1, h2 => by
    have e1 : a = x := Option.some.inj h1
    have e2 : b = y := Option.some.inj h2
    rw [← e1, ← e2]; exact h.1
  | a :: b :: r, i + 1, x, y, h, h1, h2 => rd_at (i := i) h.2 h1 h2
theorem swap_S {l : List Nat} (h : IsP l) : Txt.swapcase (S l) = S (l.map sw) := by
  unfold Txt.swapcase
  have : placed (S l) (fun i c => if Unicode.isUpper c then Unicode.lowerAt (S l).cps i else if Unicode.isLower c then Unicode.upperOf c else [c]) = (S l).cps.map sw := by
    refine placed_single _ _ sw fun i c hc => ?_
    have hc' : c ∈ stepC := h c (by rw [← S_cps l]; exact List.mem_of_getElem? hc)
    have h1 : ∀ c ∈ stepC, (if Unicode.isUpper c = true then Unicode.lowerOf c else if Unicode.isLower c = true then Unicode.upperOf c else [c]) = [sw c] := by decide +kernel
    have h2 : Unicode.lowerAt (S l).cps i = Unicode.lowerOf c := by
      have hz : (S l).cps[i]? = some c := by rw [← Array.getElem?_toList]; exact hc
      unfold Unicode.lowerAt
      rw [hz]
      have hne : (c == 0x3A3) = false := by
        rw [beq_eq_false_iff_ne]; have := sw_lt c hc'; omega
      simp only [hne, Bool.false_and, Bool.false_eq_true, if_false]
    rw [h2]
    exact h1 c hc'
  rw [this]
  unfold S
  simp
/-- Lean data as the model's data: what == says of it -/
structure Emb {α : Type} [DecidableEq α] (f : α → PyData) (P : α → Prop) (n : Nat) : Prop where
  lay : ∀ a, P a → (f a).canLay0 = true
  dep : ∀ a, (f a).depth ≤ n
  eqv : ∀ a b, PyData.eqv (f a) (f b) = decide (a = b)
section
variable {α β γ : Type} [DecidableEq α] [DecidableEq β] [DecidableEq γ] {f : α → PyData} {g : β → PyData} {k : γ → PyData} {n m : Nat} {P : α → Prop} {R : β → Prop}
theorem Emb.shaped (e : Emb f P n) (a : α) (ha : P a) (h : n ≤ 64 := by decide) : SeqAt.shaped (f a) = true := by
  unfold SeqAt.shaped
  rw [e.lay a ha, Bool.true_and]
  exact decide_eq_true (Nat.le_trans (e.dep a) h)
theorem Emb.int : Emb PyData.int (fun _ => True) 0 := ⟨fun _ _ => rfl, fun _ => Nat.le_refl _, fun a b => by rw [PyData.eqv]; exact Bool.beq_eq_decide_eq a b⟩
theorem Emb.str : Emb PyData.str (fun z => (z.cps.all fun c => decide (c < 0x110000)) = true) 0 := ⟨fun _ h => by rw [PyData.canLay0]; exact h, fun _ => Nat.le_refl _, fun a b => by rw [PyData.eqv]; exact Bool.beq_eq_decide_eq a b⟩
theorem Emb.bool : Emb PyData.bool (fun _ => True) 0 := ⟨fun _ _ => rfl, fun _ => Nat.le_refl _, fun a b => by rw [PyData.eqv]; exact Bool.beq_eq_decide_eq a b⟩
theorem Emb.comp (e : Emb f P n) (h : β → α) (inj : ∀ a b, h a = h b → a = b) : Emb (fun b => f (h b)) (fun b => P (h b)) n :=
  ⟨fun _ q => e.lay _ q, fun _ => e.dep _, fun a b => by rw [e.eqv]; exact decide_eq_decide.mpr ⟨inj a b, fun q => by rw [q]⟩⟩
theorem Emb.all (e : Emb f P n) : ∀ l m : List α, PyData.eqvAll (l.map f) (m.map f) = decide (l = m)
  | [], [] => rfl
  | [], _ :: _ => by simp [PyData.eqvAll]
  | _ :: _, [] => by simp [PyData.eqvAll]
  | x :: l, y :: m => by
    rw [List.map_cons, List.map_cons, PyData.eqvAll, e.eqv, e.all l m]
    by_cases h : x = y
    · by_cases h2 : l = m <;> simp [h, h2]
    · simp [h]
theorem Emb.lays (e : Emb f P n) : ∀ l : List α, (∀ a ∈ l, P a) → PyData.canLayAll0 (l.map f) = true
  | [], _ => rfl
  | x :: l, h => by rw [List.map_cons, PyData.canLayAll0, e.lay _ (h _ List.mem_cons_self), e.lays l fun a ha => h a (List.mem_cons_of_mem _ ha)]; rfl
theorem Emb.deps (e : Emb f P n) : ∀ l : List α, PyData.depthAll (l.map f) ≤ n
  | [] => Nat.zero_le _
  | x :: l => by rw [List.map_cons, PyData.depthAll]; exact Nat.max_le.mpr ⟨e.dep x, e.deps l⟩
theorem Emb.list (e : Emb f P n) : Emb (fun l : List α => PyData.list (l.map f)) (fun l => ∀ a ∈ l, P a) (n + 1) :=
  ⟨fun l h => by rw [PyData.canLay0]; exact e.lays l h, fun l => by rw [PyData.depth]; have := e.deps l; omega, fun a b => by rw [PyData.eqv, e.all]⟩
theorem Emb.tupl (e : Emb f P n) : Emb (fun l : List α => PyData.tuple (l.map f)) (fun l => ∀ a ∈ l, P a) (n + 1) :=
  ⟨fun l h => by rw [PyData.canLay0]; exact e.lays l h, fun l => by rw [PyData.depth]; have := e.deps l; omega, fun a b => by rw [PyData.eqv, e.all]⟩
end
theorem dp_map {K : PySem.W.Frag} {H : Hp} {α : Type} {f : α → PyData} {v : α → V} (h : ∀ a, Dp K H (v a) (f a)) : ∀ l : List α, DpAll K H (l.map v) (l.map f)
  | [] => .nil
  | _ :: r => .cons (h _) (dp_map h r)
theorem eqv_nil {α : Type} [DecidableEq α] {f : α → PyData} {P : α → Prop} {n : Nat} (e : Emb f P n) (l : List α) : PyData.eqv (.list (l.map f)) (.list []) = decide (l = []) := e.list.eqv l []
theorem cut_to (l : List Nat) (k : Nat) : cutS (S l) none (some (k : Int)) = S (l.take k) := by
  unfold cutS
  rw [HT.sIx_none, HT.sIx_nat, S_cps, S_len, List.drop_zero, Nat.sub_zero]
  show S _ = _
  congr 1
  by_cases h : k ≤ l.length
  · rw [Nat.min_eq_left h]
  · rw [Nat.min_eq_right (by omega), List.take_of_length_le (Nat.le_refl _), List.take_of_length_le (by omega)]
theorem cut_from (l : List Nat) (k : Nat) : cutS (S l) (some (k : Int)) none = S (l.drop k) := by
  unfold cutS
  rw [HT.sIx_none, HT.sIx_nat, S_cps, S_len]
  show S _ = _
  congr 1
  by_cases h : k ≤ l.length
  · rw [Nat.min_eq_left h, List.take_of_length_le (by rw [List.length_drop]; exact Nat.le_refl _)]
  · rw [Nat.min_eq_right (by omega), List.drop_of_length_le (Nat.le_refl _), List.drop_of_length_le (by omega), List.take_nil]
theorem cut_last (l : List Nat) (x : Nat) : cutS (S (l ++ [x])) none (some (-1)) = S l := by
  unfold cutS
  have e : HT.sIx (S (l ++ [x])).length (S (l ++ [x])).length (some (-1)) = l.length := by
    rw [S_len, List.length_append, List.length_singleton]
    show (if (-1 : Int) < 0 then ((-1 : Int) + ((l.length + 1 : Nat) : Int)).toNat else min (-1 : Int).toNat (l.length + 1)) = l.length
    rw [if_pos (by decide)]
    omega
  rw [e, HT.sIx_none, S_cps, List.drop_zero, Nat.sub_zero]
  show S _ = _
  congr 1
  simp
theorem len_tS (l : List Nat) : (S l).length = l.length := S_len l
def isPth (l : List Nat) : Bool := decide (l.length ≤ 400) && l.all fun c => decide (c ∈ stepC)
theorem isPth_iff {l : List Nat} : isPth l = true ↔ IsP l ∧ l.length ≤ 400 := by
  unfold isPth IsP
  simp [and_comm]
theorem reduce_step (l : List Nat) (c : Nat) : l = [] ∨ ∃ r x, l = r ++ [x] := by
  rcases List.eq_nil_or_concat l with h | ⟨r, x, h⟩
  · exact .inl h
  · exact .inr ⟨r, x, by rw [h, List.concat_eq_append]⟩
theorem str_shape {l : List Nat} (h : IsP l) : SeqAt.shaped (.list (D.pys (l.map fun c => tS [c]))) = true := by
  have : D.pys (l.map fun c => tS [c]) = (l.map fun c => S [c]).map PyData.str := by
    induction l with
    | nil => rfl
    | cons c l ih => rw [List.map_cons, D.pys, ih fun x hx => h x (List.mem_cons_of_mem _ hx)]; rfl
  rw [this]
  refine Emb.str.list.shaped _ fun z hz => ?_
  obtain ⟨c, hc, rfl⟩ := List.mem_map.mp hz
  exact step_ok (IsP.one (h c hc))
theorem plains_sg (l : List Nat) : D.plains (l.map fun c => tS [c]) = true := by
  induction l with
  | nil => rfl
  | cons c l ih => rw [List.map_cons, D.plains, ih]; rfl
theorem pys_ne {l : List D} (h : l ≠ []) : PyData.eqvAll (D.pys l) [] = false := by
  cases l with
  | nil => exact absurd rfl h
  | cons d l => rfl
def sgs (l : List Nat) : List D := l.map fun c => tS [c]
theorem sgs_map (l : List Nat) : (l.map fun c => D.str (S [c])) = sgs l := rfl
theorem sgs_len (l : List Nat) : (sgs l).length = l.length := by simp [sgs]
theorem sgs_app (l m : List Nat) : sgs (l ++ m) = sgs l ++ sgs m := by simp [sgs]
theorem sgs_one (c : Nat) : sgs [c] = [tS [c]] := rfl
theorem sgs_nil : sgs [] = [] := rfl
theorem ne_nil {l : List Nat} (h : IsP l) : O.ne (.lst (sgs l)) (.lst []) = some (.t (.bl (decide (l ≠ [])))) := by
  cases l <;> rfl
theorem swap1 {c : Nat} (h : c ∈ stepC) : Txt.swapcase (S [c]) = S [sw c] := by
  have := swap_S (IsP.one h)
  exact this
theorem join_sgs_ok (l : List Nat) (h : l.length ≤ 1000000) : O.join (.str (Str.ofString "")) [.lst (sgs l)] = some (.t (tS l)) := join_sg_ok l h
/-! ## graphs: their targets by node and step -/
abbrev Tg := List ((Nat × Nat) × Nat)
def tlk : Tg → Nat → Nat → Option Nat
  | [], _, _ => none
  | ((u', s'), v) :: r, u, s => if u' = u ∧ s' = s then some v else tlk r u s
def teD (e : (Nat × Nat) × Nat) : D × D := (.tup [.int e.1.1, tS [e.1.2]], .int e.2)
abbrev tgD (tg : Tg) : List (D × D) := tg.map teD
def keyT (u s : Nat) : Ky := .t [.inl (u : Int), .inr (S [s])]
theorem kyB_key (u s : Nat) : kyB true (.tup [.int u, .str (S [s])]) = some (keyT u s) := rfl
theorem dky_key (u s : Nat) : dky (.tup [.int u, .str (S [s])]) = some (keyT u s) := rfl
theorem keyT_inj {u s u' s' : Nat} : (keyT u' s' = keyT u s) ↔ (u' = u ∧ s' = s) := by
  constructor
  · intro h
    have h := Ky.t.inj h
    injection h with h1 h2
    injection h2 with h2 _
    have h1 := Sum.inl.inj h1
    have h2 := S_inj (Sum.inr.inj h2)
    exact ⟨by omega, by simpa using h2⟩
  · rintro ⟨rfl, rfl⟩; rfl
theorem lk_tg (u s : Nat) : ∀ tg : Tg, lkD (keyT u s) (tgD tg) = (tlk tg u s).map fun v => D.int (v : Nat)
  | [] => rfl
  | ((u', s'), v) :: r => by
    show (if dky (.tup [.int u', .str (S [s'])]) = some (keyT u s) then some (D.int v) else lkD (keyT u s) (tgD r)) = _
    rw [dky_key, tlk]
    by_cases c : u' = u ∧ s' = s
    · rw [if_pos (by rw [keyT_inj.mpr c]), if_pos c]; rfl
    · rw [if_neg (fun h => c (keyT_inj.mp (Option.some.inj h))), if_neg c]; exact lk_tg u s r
theorem dget_tg (tg : Tg) (u s : Nat) : dget (.dct true (tgD tg)) (.tup [.int u, .str (S [s])]) = some ((tlk tg u s).map fun v => D.int (v : Nat)) := by
  rw [dget, kyB_key, Option.map_some, lk_tg]
theorem put_tg {tg : Tg} {u s v : Nat} (h : tlk tg u s = none) : putD (keyT u s) (.tup [.int u, .str (S [s])]) (.int v) (tgD tg) = tgD (tg ++ [((u, s), v)]) := by
  unfold putD
  rw [lk_tg, h, if_neg (by simp)]
  show _ = List.map teD (tg ++ [((u, s), v)])
  rw [List.map_append]; rfl
/-- a frozen graph -/
def gD (n : Nat) (tg : Tg) : D := .ins "Graph" [("node_count", .int n), ("targets", .dct true (tgD tg))]
/-- letters -/
def isL4 (c : Nat) : Prop := c = 97 ∨ c = 98 ∨ c = 99 ∨ c = 100
theorem isL4.step {c : Nat} (h : isL4 c) : c ∈ stepC ∧ sw c ∈ stepC ∧ Txt.upper (S [c]) = S [sw c] ∧ ∀ d, isL4 d → sw d ≠ c := by
  rcases h with rfl | rfl | rfl | rfl <;> refine ⟨by decide, by decide, by decide +kernel, fun d h => ?_⟩ <;> rcases h with rfl | rfl | rfl | rfl <;> decide
/-- edges: letter, source, target -/
abbrev Ed := Nat × Nat × Nat
def edD (e : Ed) : D := .tup [tS [e.1], .int e.2.1, .int e.2.2]
def tgOf : List Ed → Tg
  | [] => []
  | (c, u, v) :: es => ((u, c), v) :: ((v, sw c), u) :: tgOf es
theorem tgOf_app : ∀ es fs : List Ed, tgOf (es ++ fs) = tgOf es ++ tgOf fs
  | [], _ => rfl
  | (c, u, v) :: es, fs => by rw [List.cons_append, tgOf, tgOf, tgOf_app es fs]; rfl
theorem tlk_app : ∀ (a b : Tg) (u s : Nat), tlk (a ++ b) u s = (tlk a u s).or (tlk b u s)
  | [], b, u, s => by rw [List.nil_append, tlk]; rfl
  | ((u', s'), v) :: a, b, u, s => by
    rw [List.cons_append, tlk, tlk]
    by_cases c : u' = u ∧ s' = s
    · rw [if_pos c, if_pos c]; rfl
    · rw [if_neg c, if_neg c]; exact tlk_app a b u s
/-- two edges that can lie in one graph -/
def apart (e f : Ed) : Prop := ¬ (e.1 = f.1 ∧ e.2.1 = f.2.1) ∧ ¬ (e.1 = f.1 ∧ e.2.2 = f.2.2)
structure EOk (n : Nat) (es : List Ed) : Prop where
  ok : ∀ e ∈ es, isL4 e.1 ∧ e.2.1 < n ∧ e.2.2 < n
  pw : es.Pairwise apart
theorem EOk.pre {n : Nat} {es : List Ed} {e : Ed} (h : EOk n (es ++ [e])) : EOk n es ∧ (isL4 e.1 ∧ e.2.1 < n ∧ e.2.2 < n) ∧ ∀ f ∈ es, apart f e := by
  have p := List.pairwise_append.mp h.pw
  exact ⟨⟨fun f hf => h.ok f (List.mem_append.mpr (.inl hf)), p.1⟩, h.ok e (List.mem_append.mpr (.inr (by simp))), fun f hf => p.2.2 f hf e (by simp)⟩
theorem fresh1 {c u : Nat} (hc : isL4 c) : ∀ {es : List Ed}, (∀ f ∈ es, isL4 f.1 ∧ ¬ (f.1 = c ∧ f.2.1 = u)) → tlk (tgOf es) u c = none
  | [], _ => rfl
  | (d, a, b) :: es, h => by
    obtain ⟨h1, h2⟩ := h (d, a, b) List.mem_cons_self
    rw [tgOf, tlk, if_neg (fun z => h2 ⟨z.2, z.1⟩), tlk, if_neg (fun z => hc.step.2.2.2 d h1 z.2)]
    exact fresh1 hc fun f hf => h f (List.mem_cons_of_mem _ hf)
theorem sw_inj4 {c d : Nat} (hc : isL4 c) (hd : isL4 d) (h : sw c = sw d) : c = d := by
  rcases hc with rfl | rfl | rfl | rfl <;> rcases hd with rfl | rfl | rfl | rfl <;> first | rfl | (revert h; decide)
theorem fresh2 {c v : Nat} (hc : isL4 c) : ∀ {es : List Ed}, (∀ f ∈ es, isL4 f.1 ∧ ¬ (f.1 = c ∧ f.2.2 = v)) → tlk (tgOf es) v (sw c) = none
  | [], _ => rfl
  | (d, a, b) :: es, h => by
    obtain ⟨h1, h2⟩ := h (d, a, b) List.mem_cons_self
    rw [tgOf, tlk, if_neg (fun z => h1.step.2.2.2 c hc z.2.symm), tlk, if_neg (fun z => h2 ⟨sw_inj4 h1 hc z.2, z.1⟩)]
    exact fresh2 hc fun f hf => h f (List.mem_cons_of_mem _ hf)
theorem fresh_e {n : Nat} {es : List Ed} {c u v : Nat} (h : EOk n (es ++ [(c, u, v)])) : tlk (tgOf es) u c = none ∧ tlk (tgOf es) v (sw c) = none ∧ tlk (tgOf es ++ [((u, c), v)]) v (sw c) = none := by
  obtain ⟨h1, h2, h3⟩ := h.pre
  have a := fresh1 h2.1 (u := u) (es := es) fun f hf => ⟨(h1.ok f hf).1, fun z => (h3 f hf).1 z⟩
  have b := fresh2 h2.1 (v := v) (es := es) fun f hf => ⟨(h1.ok f hf).1, fun z => (h3 f hf).2 z⟩
  refine ⟨a, b, ?_⟩
  rw [tlk_app, b, tlk, if_neg (fun z => h2.1.step.2.2.2 c h2.1 z.2.symm)]
  rfl
def isI : D → Bool
  | .int _ => true
  | _ => false
def okT (d : D) : Prop := ∃ t, d.tyc = some t
theorem is_integer_ok {d : D} (h : okT d) : m_is_integer [d] = .ok (.t (.bl (isI d))) [] := by
  obtain ⟨t, h⟩ := h
  cases d <;> simp at h <;> subst h <;> simp [m_is_integer, b_is_integer, isI]
/-- a list of texts of steps, as a list or a tuple -/
def seqD (b : Bool) (ds : List D) : D := if b then .lst ds else .tup ds
theorem isa_seq (b : Bool) (ds : List D) : O.isa [seqD b ds, .tup [.ty "list", .ty "tuple"]] = some (.t (.bl true)) := by cases b <;> simp [seqD]
theorem len_seq (b : Bool) (ds : List D) : O.len [seqD b ds] = some (.t (.int ds.length)) := by cases b <;> rfl
theorem items_seq (b : Bool) (ds : List D) : itemsOf (seqD b ds) = some ds := by cases b <;> rfl
theorem en_seq (b : Bool) (ds : List D) (ρ : Dx.Env) : I.enR [seqD b ds] ρ = .ok (I.enD ds) ρ := by cases b <;> rfl
theorem enD_at {zs : List D} {i : Nat} {d : D} (h : (I.enD zs)[i]? = some d) : ∃ z, zs[i]? = some z ∧ d = .tup [.int (i : Nat), z] := by
  unfold I.enD at h
  rw [List.getElem?_map, List.getElem?_zipIdx] at h
  cases e : zs[i]? with
  | none => rw [e] at h; cases h
  | some z => rw [e] at h; simp at h; exact ⟨z, rfl, h.symm⟩
theorem enD_len (zs : List D) : (I.enD zs).length = zs.length := by simp [I.enD]
def okF (d : D) : Prop := okT d ∧ ∀ ds, d = .tup ds → ∀ x ∈ ds, okT x
theorem isI_of {d : D} (h : isI d = true) : ∃ i, d = .int i := by cases d <;> first | exact ⟨_, rfl⟩ | cases h
/-- the place of a step -/
def ixC (c : Nat) : Nat := stepC.idxOf c
theorem occ_step : ∀ c ∈ stepC, Builtin.Str.occurrences (Str.ofString "aAbBcCdD") (S [c]) 0 (Str.ofString "aAbBcCdD").length 1 = [ixC c] := by decide +kernel
theorem ixC_lt : ∀ c ∈ stepC, ixC c < 8 := by decide +kernel
/-- the order of lists of ints, the shorter first where one begins the other -/
def lexB : List Int → List Int → Bool
  | [], [] => false
  | [], _ :: _ => true
  | _ :: _, [] => false
  | x :: xs, y :: ys => if x = y then lexB xs ys else decide (x < y)
theorem toks_ints : ∀ (xs ys : List Int), PyProof.Rows.lexLt PyProof.Rows.itemOrd (PySem.W.keyToksAll (xs.map PyData.int)) (PySem.W.keyToksAll (ys.map PyData.int)) = lexB xs ys
  | [], [] => by decide +kernel
  | [], y :: ys => by
    rw [List.map_cons, PySem.W.toks_all_cons, List.map_nil, PySem.W.keyToksAll]
    rw [PyProof.Rows.lex_diff (O := PyProof.Rows.itemOrd) (by decide)]
    rfl
  | x :: xs, [] => by
    rw [List.map_cons, PySem.W.toks_all_cons, List.map_nil, PySem.W.keyToksAll]
    rw [PyProof.Rows.lex_diff (O := PyProof.Rows.itemOrd) (by decide)]
    rfl
  | x :: xs, y :: ys => by
    by_cases e : x = y
    · subst e
      rw [List.map_cons, List.map_cons, PySem.W.dataLt_all_yes (by rfl) (by simp [PyData.eqv]), toks_ints xs ys]
      simp [lexB]
    · rw [List.map_cons, List.map_cons, PySem.W.dataLt_all_no (by rfl) (by simp [PyData.eqv, e]), PySem.W.dataLt_int]
      simp [lexB, e]
theorem lt_pair (a b : Int) (xs ys : List PyData) (hxy : PySem.W.alikeAll xs ys = true) : PySem.W.dataLt (.tuple (.int a :: xs)) (.tuple (.int b :: ys)) = if a = b then PyProof.Rows.lexLt PyProof.Rows.itemOrd (PySem.W.keyToksAll xs) (PySem.W.keyToksAll ys) else decide (a < b) := by
  rw [PySem.W.dataLt_tuple]
  by_cases e : a = b
  · subst e; rw [if_pos rfl, PySem.W.dataLt_all_yes (by rfl) (by simp [PyData.eqv])]
  · rw [if_neg e, PySem.W.dataLt_all_no (by rfl) (by simp [PyData.eqv, e]), PySem.W.dataLt_int]
theorem toks_one (x y : PyData) (h : PySem.W.alike x y = true) (hr : PyData.eqv x y = true → PySem.W.dataLt x y = false) : PyProof.Rows.lexLt PyProof.Rows.itemOrd (PySem.W.keyToksAll [x]) (PySem.W.keyToksAll [y]) = PySem.W.dataLt x y := by
  cases e : PyData.eqv x y with
  | true => rw [PySem.W.dataLt_all_yes h e, hr e]; decide +kernel
  | false => rw [PySem.W.dataLt_all_no h e]
theorem lexB_irr : ∀ xs, lexB xs xs = false
  | [] => rfl
  | x :: xs => by simp [lexB, lexB_irr xs]
theorem eqv_ints : ∀ xs ys : List Int, PyData.eqvAll (xs.map .int) (ys.map .int) = true → xs = ys
  | [], [], _ => rfl
  | [], _ :: _, h => by simp [PyData.eqvAll] at h
  | _ :: _, [], h => by simp [PyData.eqvAll] at h
  | x :: xs, y :: ys, h => by
    rw [List.map_cons, List.map_cons, PySem.W.eqv_all_cons, Bool.and_eq_true] at h
    have h1 : x = y := by simpa [PyData.eqv] using h.1
    rw [h1, eqv_ints xs ys h.2]
theorem alike_ints : ∀ xs ys : List Int, PySem.W.alikeAll (xs.map .int) (ys.map .int) = true
  | [], _ => by simp [PySem.W.alikeAll]
  | _ :: _, [] => by simp [PySem.W.alikeAll]
  | x :: xs, y :: ys => by rw [List.map_cons, List.map_cons, PySem.W.alikeAll, alike_ints xs ys]; rfl
/-- the keys of two paths compared -/
theorem lt_keys (a b : Int) (xs ys : List Int) : PySem.W.dataLt (.tuple [.int a, .list (xs.map .int)]) (.tuple [.int b, .list (ys.map .int)]) = if a = b then lexB xs ys else decide (a < b) := by
  rw [lt_pair a b _ _ (by rw [PySem.W.alikeAll, PySem.W.alike, alike_ints]; simp [PySem.W.alikeAll])]
  by_cases e : a = b
  · rw [if_pos e, if_pos e, toks_one _ _ (by rw [PySem.W.alike]; exact alike_ints xs ys) fun h => ?_, PySem.W.dataLt_list, toks_ints]
    rw [PyData.eqv] at h
    rw [eqv_ints xs ys h, PySem.W.dataLt_list, toks_ints, lexB_irr]
  · rw [if_neg e, if_neg e]
theorem lt_ints2 (a b c d : Int) : PySem.W.dataLt (.tuple [.int a, .int b]) (.tuple [.int c, .int d]) = if a = c then decide (b < d) else decide (a < c) := by
  rw [lt_pair a c _ _ (by rfl)]
  by_cases e : a = c
  · rw [if_pos e, if_pos e, toks_one _ _ (by rfl) fun h => ?_, PySem.W.dataLt_int]
    have h1 : b = d := by simpa [PyData.eqv] using h
    rw [h1, PySem.W.dataLt_int]; simp
  · rw [if_neg e, if_neg e]
/-- the number of a path, base eight -/
def rk (a : Nat) : List Nat → Nat
  | [] => a
  | c :: r => rk (a * 8 + ixC c) r
theorem rk_lt : ∀ (l m : List Nat) (a b : Nat), IsP l → IsP m → l.length = m.length → a < b → rk a l < rk b m
  | [], [], _, _, _, _, _, h => h
  | c :: l, d :: m, a, b, hl, hm, e, h => by
    have h1 := ixC_lt c (hl c (by simp)); have h2 := ixC_lt d (hm d (by simp))
    exact rk_lt l m _ _ (fun x hx => hl x (by simp [hx])) (fun x hx => hm x (by simp [hx])) (by simpa using e) (by omega)
  | [], _ :: _, _, _, _, _, e, _ => by simp at e
  | _ :: _, [], _, _, _, _, e, _ => by simp at e
theorem lex_rk : ∀ (l m : List Nat) (a : Nat), IsP l → IsP m → l.length = m.length → lexB (l.map fun c => (ixC c : Int)) (m.map fun c => (ixC c : Int)) = decide (rk a l < rk a m)
  | [], [], _, _, _, _ => by simp [lexB, rk]
  | c :: l, d :: m, a, hl, hm, e => by
    have hl' : IsP l := fun x hx => hl x (by simp [hx]); have hm' : IsP m := fun x hx => hm x (by simp [hx])
    have e' : l.length = m.length := by simpa using e
    rw [List.map_cons, List.map_cons, lexB]
    by_cases q : ixC c = ixC d
    · rw [if_pos (by omega), lex_rk l m (a * 8 + ixC c) hl' hm' e']; simp [rk, q]
    · rw [if_neg (by omega)]
      by_cases q2 : ixC c < ixC d
      · have := rk_lt l m (a * 8 + ixC c) (a * 8 + ixC d) hl' hm' e' (by omega)
        rw [rk, rk]; exact decide_eq_decide.mpr (by omega)
      · have := rk_lt m l (a * 8 + ixC d) (a * 8 + ixC c) hm' hl' e'.symm (by omega)
        rw [rk, rk]; exact decide_eq_decide.mpr (by omega)
  | [], _ :: _, _, _, _, e => by simp at e
  | _ :: _, [], _, _, _, e => by simp at e
/-- a path comes ahead of another -/
def pre (l m : List Nat) : Bool := if (l.length : Int) = (m.length : Int) then lexB (l.map fun c => (ixC c : Int)) (m.map fun c => (ixC c : Int)) else decide ((l.length : Int) < (m.length : Int))
theorem pre_rk {l m : List Nat} (hl : IsP l) (hm : IsP m) : (if (l.length : Int) = (m.length : Int) then decide ((rk 0 l : Int) < (rk 0 m : Int)) else decide ((l.length : Int) < (m.length : Int))) = pre l m := by
  unfold pre
  by_cases e : (l.length : Int) = (m.length : Int)
  · rw [if_pos e, if_pos e, lex_rk l m 0 hl hm (by omega)]
    exact decide_eq_decide.mpr (by omega)
  · rw [if_neg e, if_neg e]
theorem xor_step : ∀ c ∈ stepC, ∃ d, Builtin.bitXor ((ixC c : Nat) : Int) 1 = ((d : Nat) : Int) ∧ stepC[d]? = some (sw c) := by
  intro c hc
  have h : ∀ c ∈ stepC, Builtin.bitXor ((ixC c : Nat) : Int) 1 = ((ixC (sw c) : Nat) : Int) ∧ stepC[ixC (sw c)]? = some (sw c) := by decide +kernel
  exact ⟨_, h c hc⟩
theorem cutS_last (l : List Nat) (x : Nat) : cutS (S (l ++ [x])) none (some (-1)) = S l := cut_last l x
/-- data that can be shown: its weight, its depth -/
structure Shn (w k : Nat) (d : D) : Prop where
  pl : d.plainE = true
  sh : d.py.showable = true
  dp : d.py.depth ≤ k
  lf : PyData.leavesShort 30 d.py = true
  wt : d.py.weight ≤ w
theorem Shn.repr {w k : Nat} {d : D} (h : Shn w k d) (hw : w ≤ 400000) (hk : k ≤ 60) : O.repr [d] = some (.t (.str d.py.shown)) := by
  have fit : d.py.shown.length ≤ 16777216 := by
    rw [← sizeLine_eq]
    have h1 := PyData.shown_le 30 (by decide) d.py h.lf
    have h2 := h.wt
    rw [sizeLine_eq]
    have h3 : (30 + 2) * d.py.weight ≤ 32 * 400000 := Nat.mul_le_mul_left _ (by omega)
    omega
  have ok : O.shownOk d.py := by
    unfold O.shownOk
    simp [h.sh, fit, Nat.le_trans h.dp hk]
  rw [q_O_repr_1, if_pos ⟨h.pl, ok⟩]
  simp [ws, fit]
theorem Shn.str {l : List Nat} {w : Nat} (h : IsP l) (hl : l.length ≤ w) : Shn w 0 (tS l) := by
  refine ⟨rfl, rfl, Nat.le_refl _, ?_, ?_⟩
  · show PyData.leavesShort 30 (.str (S l)) = true
    rw [PyData.leavesShort, S_cps, List.all_eq_true]
    exact fun c hc => decide_eq_true (by have := sw_lt c (h c hc); omega)
  · show PyData.weight (.str (S l)) ≤ w
    rw [PyData.weight, ← Array.length_toList, S_cps]; exact hl
theorem Shn.seq {w k n : Nat} {ds : List D} (h : ∀ d ∈ ds, Shn w k d) (hn : ds.length ≤ n) :
    D.plainsE ds = true ∧ PyData.showableAll (D.pys ds) = true ∧ PyData.depthAll (D.pys ds) ≤ k ∧ PyData.leavesShortAll 30 (D.pys ds) = true ∧ PyData.weightAll (D.pys ds) ≤ n * (w + 1) := by
  induction ds generalizing n with
  | nil => exact ⟨rfl, rfl, Nat.zero_le _, rfl, Nat.zero_le _⟩
  | cons d ds ih =>
    have hd := h d List.mem_cons_self
    cases n with
    | zero => simp at hn
    | succ n =>
      obtain ⟨i1, i2, i4, i5, i6⟩ := ih (n := n) (fun x hx => h x (List.mem_cons_of_mem _ hx)) (by simp at hn; exact hn)
      refine ⟨by rw [D.plainsE, hd.pl, i1]; rfl, by rw [D.pys, PyData.showableAll, hd.sh, i2]; rfl, ?_, by rw [D.pys, PyData.leavesShortAll, hd.lf, i5]; rfl, ?_⟩
      · rw [D.pys, PyData.depthAll]; have := hd.dp; omega
      · rw [D.pys, PyData.weightAll, Nat.succ_mul]; have := hd.wt; omega
theorem Shn.lst {w k n : Nat} {ds : List D} (h : ∀ d ∈ ds, Shn w k d) (hn : ds.length ≤ n) : Shn (n * (w + 1) + 1) (k + 1) (.lst ds) := by
  obtain ⟨i1, i2, i4, i5, i6⟩ := Shn.seq h hn
  exact ⟨by rw [D.plainE]; exact i1, by rw [D.py, PyData.showable]; exact i2, by rw [D.py, PyData.depth]; omega, by rw [D.py, PyData.leavesShort]; exact i5, by rw [D.py, PyData.weight]; omega⟩
theorem Shn.tup {w k n : Nat} {ds : List D} (h : ∀ d ∈ ds, Shn w k d) (hn : ds.length ≤ n) : Shn (n * (w + 1) + 1) (k + 1) (.tup ds) := by
  obtain ⟨i1, i2, i4, i5, i6⟩ := Shn.seq h hn
  exact ⟨by rw [D.plainE]; exact i1, by rw [D.py, PyData.showable]; exact i2, by rw [D.py, PyData.depth]; omega, by rw [D.py, PyData.leavesShort]; exact i5, by rw [D.py, PyData.weight]; omega⟩
theorem small_ints : ∀ i : Fin 400, PyData.leavesShort 30 (.int ((i.val : Int) - 100)) = true ∧ (PyData.int ((i.val : Int) - 100)).showable = true ∧ PyData.weight (.int ((i.val : Int) - 100)) ≤ 12 := by decide +kernel
theorem Shn.int {i : Int} (h1 : -100 ≤ i) (h2 : i < 300) {w : Nat} (hw : 12 ≤ w) : Shn w 0 (.int i) := by
  have z := small_ints ⟨(i + 100).toNat, by omega⟩
  have e : (((i + 100).toNat : Nat) : Int) - 100 = i := by omega
  simp only [e] at z
  exact ⟨rfl, z.2.1, Nat.le_refl _, z.1, Nat.le_trans z.2.2 hw⟩
theorem Shn.mono {w k w' k' : Nat} {d : D} (h : Shn w k d) (hw : w ≤ w') (hk : k ≤ k') : Shn w' k' d := ⟨h.pl, h.sh, Nat.le_trans h.dp hk, h.lf, Nat.le_trans h.wt hw⟩

theorem Shn.non (w : Nat) (hw : 1 ≤ w) : Shn w 0 .non := ⟨rfl, rfl, Nat.le_refl _, by decide +kernel, Nat.le_trans (by decide +kernel) hw⟩
theorem Shn.bl (b : Bool) (w : Nat) (hw : 1 ≤ w) : Shn w 0 (.bl b) := ⟨rfl, rfl, Nat.le_refl _, by cases b <;> decide +kernel, Nat.le_trans (by cases b <;> decide +kernel) hw⟩
theorem Shn.dct0 (w : Nat) (hw : 1 ≤ w) : Shn w 1 (.dct false []) := ⟨rfl, rfl, by decide +kernel, by decide +kernel, Nat.le_trans (by decide +kernel) hw⟩
theorem Shn.lit {z : Str} {w : Nat} (h : PyData.leavesShort 30 (.str z) = true) (hw : PyData.weight (.str z) ≤ w) : Shn w 0 (.str z) := ⟨rfl, rfl, Nat.le_refl _, h, hw⟩

theorem Shn.intL {i : Int} {w : Nat} (h : (PyData.leavesShort 30 (.int i) && (PyData.int i).showable) = true) (hw : PyData.weight (.int i) ≤ w) : Shn w 0 (.int i) := by
  rw [Bool.and_eq_true] at h
  exact ⟨rfl, h.2, Nat.le_refl _, h.1, hw⟩
/-- what a line of a derivation is: number n, m generators -/
def lnB (n m : Int) : D → Bool
  | .tup [.str w, .int i] => decide (0 ≤ i) && ((decide (w = Str.ofString "generator") && decide (i < m)) || (decide (w = Str.ofString "inverse") && decide (i < n)))
  | .tup [.str w, .int i, .int j] => (decide (0 ≤ i) && decide (0 ≤ j)) && (decide (w = Str.ofString "product") && (decide (i < n) && decide (j < n)))
  | _ => false
theorem wd1 : (Str.ofString "generator" = Str.ofString "inverse") = False := by first | (simp; done) | (simp; decide +kernel)
theorem wd2 : (Str.ofString "generator" = Str.ofString "product") = False := by first | (simp; done) | (simp; decide +kernel)
theorem wd3 : (Str.ofString "inverse" = Str.ofString "product") = False := by first | (simp; done) | (simp; decide +kernel)
theorem isS_of {d : D} (h : d.tyc = some .str) : ∃ s, d = .str s := by cases d <;> first | exact ⟨_, rfl⟩ | cases h
theorem in_23 (k : Int) : inV (.int k) [.int 2, .int 3] = (decide (k = 2) || decide (k = 3)) := by
  have e1 : ∀ j : Int, eqV (.int j) (.int k) = decide (k = j) := fun j => by
    by_cases h : k = j
    · subst h; simp [eqV]
    · rw [decide_eq_false h]; simp [eqV]; exact fun e => h e.symm
  simp [inV, e1]
/-- an int from 0 on -/
def nnB : D → Bool
  | .int i => decide (0 ≤ i)
  | _ => false
theorem nn_not {d : D} (h : isI d = false) : nnB d = false := by cases d <;> first | rfl | cases h
theorem wd4 : (Str.ofString "inverse" = Str.ofString "generator") = False := by first | (simp; done) | (simp; decide +kernel)
theorem wd5 : (Str.ofString "product" = Str.ofString "generator") = False := by first | (simp; done) | (simp; decide +kernel)
theorem wd6 : (Str.ofString "product" = Str.ofString "inverse") = False := by first | (simp; done) | (simp; decide +kernel)
/-- the value of a line, behind the values vs -/
def valD (ps vs : List (List Nat)) : D → List Nat
  | .tup [.str w, .int i] => if w = Str.ofString "generator" then ps.getD i.toNat [] else inv (vs.getD i.toNat [])
  | .tup [.str _, .int i, .int j] => red (vs.getD i.toNat [] ++ vs.getD j.toNat [])
  | _ => []
def runV (ps : List (List Nat)) : List (List Nat) → List D → Option (List (List Nat))
  | vs, [] => some vs
  | vs, d :: ds => if lnB vs.length ps.length d = true ∧ (valD ps vs d).length ≤ 1000 then runV ps (vs ++ [valD ps vs d]) ds else none
theorem ln_form {n m : Int} {d : D} (h : lnB n m d = true) : (∃ i : Nat, d = .tup [.str (Str.ofString "generator"), .int i] ∧ (i : Int) < m) ∨ (∃ i : Nat, d = .tup [.str (Str.ofString "inverse"), .int i] ∧ (i : Int) < n) ∨
    ∃ i j : Nat, d = .tup [.str (Str.ofString "product"), .int i, .int j] ∧ (i : Int) < n ∧ (j : Int) < n := by
  unfold lnB at h
  split at h
  · rename_i w i
    simp only [Bool.and_eq_true, Bool.or_eq_true, decide_eq_true_eq] at h
    obtain ⟨i0, ⟨rfl, h⟩ | ⟨rfl, h⟩⟩ := h
    · exact .inl ⟨i.toNat, by rw [Int.toNat_of_nonneg i0], by omega⟩
    · exact .inr (.inl ⟨i.toNat, by rw [Int.toNat_of_nonneg i0], by omega⟩)
  · rename_i w i j
    simp only [Bool.and_eq_true, Bool.or_eq_true, decide_eq_true_eq] at h
    obtain ⟨⟨i0, j0⟩, rfl, h1, h2⟩ := h
    exact .inr (.inr ⟨i.toNat, j.toNat, by rw [Int.toNat_of_nonneg i0, Int.toNat_of_nonneg j0], by omega, by omega⟩)
  · cases h
def VOk (k : Nat) (vs : List (List Nat)) : Prop := ∀ v ∈ vs, IsP v ∧ v.length ≤ k
theorem VOk.getD {k : Nat} {vs : List (List Nat)} (h : VOk k vs) (i : Nat) : IsP (vs.getD i []) ∧ (vs.getD i []).length ≤ k := by
  rw [List.getD_eq_getElem?_getD]
  cases e : vs[i]? with
  | none => exact ⟨IsP.nil, Nat.zero_le _⟩
  | some v => exact h v (List.mem_of_getElem? e)
theorem VOk.val {ps vs : List (List Nat)} (hp : VOk 60 ps) (hv : VOk 1000 vs) (d : D) : IsP (valD ps vs d) ∧ (valD ps vs d).length ≤ 2000 := by
  unfold valD
  split
  · split
    · exact ⟨(hp.getD _).1, by have := (hp.getD (Int.toNat ‹_›)).2; omega⟩
    · exact ⟨(hv.getD _).1.inv, by rw [inv_len]; have := (hv.getD (Int.toNat ‹_›)).2; omega⟩
  · rename_i i j
    refine ⟨((hv.getD _).1.app (hv.getD _).1).red, Nat.le_trans (red_len _) ?_⟩
    rw [List.length_append]
    have := (hv.getD i.toNat).2
    have := (hv.getD j.toNat).2
    omega
  · exact ⟨IsP.nil, by simp⟩
theorem VOk.snoc {k : Nat} {vs : List (List Nat)} {v : List Nat} (h : VOk k vs) (hv : IsP v ∧ v.length ≤ k) : VOk k (vs ++ [v]) := fun w hw => by
  rcases List.mem_append.mp hw with hw | hw
  · exact h w hw
  · rw [List.mem_singleton.mp hw]; exact hv
theorem at_tS {vs : List (List Nat)} {i : Nat} (h : i < vs.length) : atI (vs.map tS) (i : Int) = some (tS (vs.getD i [])) := atI_at (by rw [List.getElem?_map, List.getD_eq_getElem?_getD, List.getElem?_eq_getElem h]; rfl)
abbrev Gln : GM := G.tup 2 (G.cons (G.name 3) (G.cons (G.name 4) G.nil))
/-- an enumeration from n on -/
def enF (n : Nat) (ds : List D) : List D := (ds.zipIdx n).map fun p => .tup [.int (p.2 : Nat), p.1]
theorem enF_cons (n : Nat) (d : D) (ds : List D) : enF n (d :: ds) = .tup [.int (n : Nat), d] :: enF (n + 1) ds := rfl
theorem enD_enF (ds : List D) : I.enD ds = enF 0 ds := rfl
/-- what line_values gives -/
def lvO : Option (List (List Nat)) → W
  | some ws => .f (ws.map tS)
  | none => .t .non
def lvW (ps : List (List Nat)) : D → W
  | .lst ds => if ds.length ≤ 60000 then lvO (runV ps [] ds) else .t .non
  | _ => .t .non
def okDv (d : D) : Prop := okT d ∧ (∀ ds, d ≠ .scr ds) ∧ ∀ ds, d = .lst ds → ds.length ≤ 1000000 ∧ ∀ x ∈ ds, okF x
/-- what a derivation is worth: its last value -/
def lastV (ws : List (List Nat)) : List Nat := (([] :: ws).getLast (by simp))
def drv (ps : List (List Nat)) (l : List Nat) : D → Bool
  | .lst ds => decide (ds.length ≤ 60000) && (match runV ps [] ds with | some ws => decide (lastV ws = l) | none => false)
  | _ => false
theorem last_at (ws : List (List Nat)) : atI (tS [] :: ws.map tS) (-1) = some (tS (lastV ws)) := by
  unfold lastV
  rcases List.eq_nil_or_concat ws with rfl | ⟨r, x, rfl⟩
  · rfl
  · have : tS [] :: (r.concat x).map tS = (tS [] :: r.map tS) ++ [tS x] := by simp
    rw [this, atI_last]
    simp [List.getLast_cons]
theorem runV_len {ps : List (List Nat)} : ∀ {ds : List D} {vs ws : List (List Nat)}, runV ps vs ds = some ws → ws.length = vs.length + ds.length
  | [], vs, ws, h => by cases h; rfl
  | d :: ds, vs, ws, h => by
    rw [runV] at h
    split at h
    · rw [runV_len h]; simp; omega
    · cases h
theorem at_tS1 {vs : List (List Nat)} {i : Nat} (h : i < vs.length) : atI (tS [] :: vs.map tS) ((i : Int) + 1) = some (tS (vs.getD i [])) := by
  have : atI (tS [] :: vs.map tS) (((i + 1 : Nat)) : Int) = some (tS (vs.getD i [])) := atI_at (by rw [List.getElem?_cons_succ, List.getElem?_map, List.getD_eq_getElem?_getD, List.getElem?_eq_getElem h]; rfl)
  exact this
theorem getD_red {ls : List (List Nat)} (i : Nat) : (ls.map red).getD i [] = red (ls.getD i []) := by
  rw [List.getD_eq_getElem?_getD, List.getD_eq_getElem?_getD, List.getElem?_map]
  cases ls[i]? <;> rfl
theorem small_red {ls : List (List Nat)} (hp : VOk 8 ls) : VOk 400 ls ∧ VOk 60 (ls.map red) ∧ ∀ l ∈ ls, IsP l ∧ l.length ≤ 400 ∧ (red l).length ≤ 60 := by
  have k : ∀ l ∈ ls, IsP l ∧ l.length ≤ 400 ∧ (red l).length ≤ 60 := fun l hl => ⟨(hp l hl).1, by have := (hp l hl).2; omega, by have := (hp l hl).2; have := red_len l; omega⟩
  refine ⟨fun l hl => ⟨(k l hl).1, (k l hl).2.1⟩, fun l hl => ?_, k⟩
  obtain ⟨m, hm, rfl⟩ := List.mem_map.mp hl
  exact ⟨(k m hm).1.red, (k m hm).2.2⟩
theorem has_node_ok {n : Nat} {tg : Tg} (v : Nat) : m_Graph_has_node [gD n tg, .int v] = .ok (.t (.bl (decide (v < n)))) [] := by
  have e := is_integer_ok (d := .int v) ⟨.int, rfl⟩
  rw [show isI (.int v) = true from rfl] at e
  by_cases c : v < n <;> simp [m_Graph_has_node, b_Graph_has_node, e, gD, c]
theorem inn4 {c : Nat} (h : isL4 c) : O.nin (.str (S [c])) (.str (Str.ofString "abcd")) = some (.t (.bl false)) := by
  rcases h with rfl | rfl | rfl | rfl <;> rfl
theorem accepts_ok {n : Nat} {tg : Tg} {c u v : Nat} (hc : isL4 c) (hu : u < n) (hv : v < n) (f1 : tlk tg u c = none) (f2 : tlk tg v (sw c) = none) : m_Graph_accepts [gD n tg, edD (c, u, v)] = .ok (.t (.bl true)) [] := by
  have h1 := has_node_ok (n := n) (tg := tg) u
  have h2 := has_node_ok (n := n) (tg := tg) v
  rw [decide_eq_true hu] at h1
  rw [decide_eq_true hv] at h2
  have a0 : atI [tS [c], D.int u, D.int v] 0 = some (tS [c]) := rfl
  have g1 := dget_tg tg u c
  have g2 := dget_tg tg v (sw c)
  have up := hc.step.2.2.1
  rw [f1] at g1
  rw [f2] at g2
  have nn := inn4 hc
  simp only [gD, edD] at h1 h2 ⊢
  simp [m_Graph_accepts, b_Graph_accepts, a0, h1, h2, g1, g2, up, nn, S_len]
abbrev Gin : GM := G.tup 2 (G.cons (G.name 3) (G.cons (G.name 4) G.nil))
def selfO (n : Nat) (tg : Tg) (s : Bool) : Dx.Slot := .ob (.io s) (.n (.ins "Graph") [(.f "node_count", .fz (.int n)), (.f "targets", .g true (tgD tg))])
theorem init_step {n : Nat} {es : List Ed} {c u v : Nat} (h : EOk n (es ++ [(c, u, v)])) (hz : es.length < 100000) (s : Bool) (i : Int) (a b x3 x4 x5 x6 x7 : Dx.Slot) :
    ∃ y5 y6 y7, S.foB bl_Graph___init___1 Gin (.tup [.int i, edD (c, u, v)]) [selfO n (tgOf es) s, a, b, x3, x4, x5, x6, x7] = .ok .nx [selfO n (tgOf (es ++ [(c, u, v)])) s, a, b, .tr (.int i), .tr (edD (c, u, v)), y5, y6, y7] := by
  obtain ⟨f1, f2, f3⟩ := fresh_e h
  obtain ⟨h1, ⟨hc, hu, hv⟩, h3⟩ := h.pre
  dsimp only at hc hu hv
  have ac := accepts_ok hc hu hv f1 f2
  have up := hc.step.2.2.1
  have k1 : kyB true (.tup [.int u, .str (S [c])]) = some (keyT u c) := rfl
  have k2 : kyB true (.tup [.int v, .str (S [sw c])]) = some (keyT v (sw c)) := rfl
  have p1 := put_tg (v := v) f1
  have p2 := put_tg (v := u) f3
  have tl : (tgD (tgOf es)).length < 1000000 := by
    have : ∀ es : List Ed, (tgOf es).length = 2 * es.length := by
      intro es
      induction es with
      | nil => rfl
      | cons e es ih => obtain ⟨c, u, v⟩ := e; rw [tgOf, List.length_cons, List.length_cons, ih, List.length_cons]; omega
    rw [List.length_map, this]; omega
  have tl2 : (tgD (tgOf es ++ [((u, c), v)])).length < 1000000 := by
    have := tl
    rw [List.length_map] at this ⊢
    rw [List.length_append]
    have : ∀ es : List Ed, (tgOf es).length = 2 * es.length := by
      intro es
      induction es with
      | nil => rfl
      | cons e es ih => obtain ⟨c, u, v⟩ := e; rw [tgOf, List.length_cons, List.length_cons, ih, List.length_cons]; omega
    rw [this]; simp; omega
  have fin : tgOf (es ++ [(c, u, v)]) = tgOf es ++ [((u, c), v)] ++ [((v, sw c), u)] := by rw [tgOf_app, List.append_assoc]; rfl
  rw [fin]
  unfold selfO
  simp only [gD, edD] at ac ⊢
  generalize hA : tgD (tgOf es) = A at *
  generalize hB : tgD (tgOf es ++ [((u, c), v)]) = B at *
  generalize hC : tgD (tgOf es ++ [((u, c), v)] ++ [((v, sw c), u)]) = C at *
  refine ⟨.tr (tS [c]), .tr (.int u), .tr (.int v), ?_⟩
  simp [bl_Graph___init___1, ac, up, k1, k2, p1, p2, tl, tl2, S_len]
theorem init_for {n : Nat} {es0 : List Ed} (s : Bool) (a b : Dx.Slot) : ∀ (fs es : List Ed) (x3 x4 x5 x6 x7 : Dx.Slot), EOk n (es ++ fs) → es.length + fs.length < 100000 →
    ∃ y3 y4 y5 y6 y7, forR (S.foB bl_Graph___init___1 Gin) (enF es.length (fs.map edD)) [selfO n (tgOf es) s, a, b, x3, x4, x5, x6, x7] = .ok .nx [selfO n (tgOf (es ++ fs)) s, a, b, y3, y4, y5, y6, y7]
  | [], es, x3, x4, x5, x6, x7, h, hz => ⟨x3, x4, x5, x6, x7, by rw [List.append_nil]; rfl⟩
  | (c, u, v) :: fs, es, x3, x4, x5, x6, x7, h, hz => by
    have e : es ++ (c, u, v) :: fs = (es ++ [(c, u, v)]) ++ fs := by simp
    rw [e] at h ⊢
    have h1 : EOk n (es ++ [(c, u, v)]) := ⟨fun f hf => h.ok f (List.mem_append.mpr (.inl hf)), (List.pairwise_append.mp h.pw).1⟩
    rw [List.length_cons] at hz
    obtain ⟨y5, y6, y7, st⟩ := init_step h1 (by omega) s (es.length : Nat) a b x3 x4 x5 x6 x7
    obtain ⟨z3, z4, z5, z6, z7, ih⟩ := init_for (es0 := es0) s a b fs (es ++ [(c, u, v)]) (.tr (.int (es.length : Nat))) (.tr (edD (c, u, v))) y5 y6 y7 h (by simp; omega)
    refine ⟨z3, z4, z5, z6, z7, ?_⟩
    rw [List.map_cons, enF_cons, forR, st]
    rw [List.length_append] at ih
    exact ih
theorem init_ok {n : Nat} {es : List Ed} (h : EOk n es) (h1 : 1 ≤ n) (h2 : n ≤ 2000) (hz : es.length < 100000) (s : Bool) : m_Graph___init__ [.int n, .lst (es.map edD)] [.n (.ins "Graph") []] = .ok (.t .non) [.n (.ins "Graph") [(.f "node_count", .fz (.int n)), (.f "targets", .g true (tgD (tgOf es)))]] := by
  have e1 := is_integer_ok (d := .int n) ⟨.int, rfl⟩
  rw [show isI (.int n) = true from rfl] at e1
  obtain ⟨y3, y4, y5, y6, y7, e⟩ := init_for (n := n) (es0 := []) false (.tr (.int n)) (.tr (.lst (es.map edD))) es [] .un .un .un .un .un (by simpa using h) (by simpa using hz)
  rw [List.length_nil, ← enD_enF, List.nil_append] at e
  simp only [selfO, tgOf, List.map_nil] at e
  simp [m_Graph___init__, b_Graph___init__, e1, e, -forR, show (1 : Int) ≤ n by omega, show (n : Int) ≤ 2000 by omega]
def optI : Option Nat → D
  | none => .non
  | some v => .int v
abbrev nD (l : List Nat) : List D := l.map fun v => D.int (v : Nat)
/-- the nodes visited behind the start -/
def wk (tg : Tg) : Nat → List Nat → List Nat
  | _, [] => []
  | u, s :: l => match tlk tg u s with
    | none => []
    | some v => v :: wk tg v l
/-- the node at the end -/
def endN (tg : Tg) : Nat → List Nat → Option Nat
  | u, [] => some u
  | u, s :: l => match tlk tg u s with
    | none => none
    | some v => endN tg v l
theorem wk_le (tg : Tg) : ∀ (l : List Nat) (u : Nat), (wk tg u l).length ≤ l.length
  | [], _ => Nat.le_refl _
  | s :: l, u => by
    rw [wk]
    cases tlk tg u s with
    | none => exact Nat.zero_le _
    | some v => have := wk_le tg l v; simp; exact this
theorem end_wk (tg : Tg) : ∀ (l : List Nat) (u : Nat), (endN tg u l = none ∧ (wk tg u l).length < l.length) ∨ ∃ pre v, endN tg u l = some v ∧ (wk tg u l).length = l.length ∧ u :: wk tg u l = pre ++ [v]
  | [], u => .inr ⟨[], u, rfl, rfl, rfl⟩
  | s :: l, u => by
    rw [endN, wk]
    cases tlk tg u s with
    | none => exact .inl ⟨rfl, by simp⟩
    | some v =>
      rcases end_wk tg l v with ⟨h1, h2⟩ | ⟨pre, w, h1, h2, h3⟩
      · exact .inl ⟨h1, by simp; exact h2⟩
      · exact .inr ⟨u :: pre, w, h1, by simp [h2], by simp [h3]⟩
theorem follow_ok (n : Nat) (tg : Tg) (u s : Nat) : m_Graph_follow [gD n tg, .int u, tS [s]] = .ok (.t (optI (tlk tg u s))) [] := by
  have g := dget_tg tg u s
  cases e : tlk tg u s <;> rw [e] at g <;> simp [m_Graph_follow, b_Graph_follow, gD, g, optI]
theorem isC_no {cn : Str} {d : D} {t : Ty} (h : d.tyc = some t) : O.isC cn d = some (.t (.bl false)) := by
  cases d <;> first | rfl | cases h
/-! ## edges lead there and back -/
theorem tlk_mem : ∀ {tg : Tg} {u s v : Nat}, tlk tg u s = some v → ((u, s), v) ∈ tg
  | [], _, _, _, e => by cases e
  | ((a, b), c) :: r, u, s, v, e => by
    rw [tlk] at e
    by_cases q : a = u ∧ b = s
    · rw [if_pos q] at e; cases e; obtain ⟨rfl, rfl⟩ := q; exact List.mem_cons_self
    · rw [if_neg q] at e; exact List.mem_cons_of_mem _ (tlk_mem e)
theorem mem_tlk : ∀ {tg : Tg} {u s v : Nat}, tg.Pairwise (fun a b => a.1 ≠ b.1) → ((u, s), v) ∈ tg → tlk tg u s = some v
  | ((a, b), c) :: r, u, s, v, p, h => by
    obtain ⟨p1, p2⟩ := List.pairwise_cons.mp p
    rw [tlk]
    rcases List.mem_cons.mp h with z | z
    · cases z; rw [if_pos ⟨rfl, rfl⟩]
    · rw [if_neg fun q => p1 _ z (by obtain ⟨rfl, rfl⟩ := q; rfl)]
      exact mem_tlk p2 z
theorem mem_tgOf : ∀ {es : List Ed} {x : (Nat × Nat) × Nat}, x ∈ tgOf es ↔ ∃ e ∈ es, x = ((e.2.1, e.1), e.2.2) ∨ x = ((e.2.2, sw e.1), e.2.1)
  | [], x => by simp [tgOf]
  | (c, u, v) :: es, x => by
    rw [tgOf, List.mem_cons, List.mem_cons, mem_tgOf]
    constructor
    · rintro (rfl | rfl | ⟨e, he, h⟩)
      · exact ⟨_, List.mem_cons_self, .inl rfl⟩
      · exact ⟨_, List.mem_cons_self, .inr rfl⟩
      · exact ⟨e, List.mem_cons_of_mem _ he, h⟩
    · rintro ⟨e, he, h⟩
      rcases List.mem_cons.mp he with rfl | he
      · rcases h with h | h
        · exact .inl h
        · exact .inr (.inl h)
      · exact .inr (.inr ⟨e, he, h⟩)
theorem tg_keys {n : Nat} : ∀ {es : List Ed}, EOk n es → (tgOf es).Pairwise fun a b => a.1 ≠ b.1
  | [], _ => .nil
  | (c, u, v) :: es, h => by
    obtain ⟨p1, p2⟩ := List.pairwise_cons.mp h.pw
    have h' : EOk n es := ⟨fun e he => h.ok e (List.mem_cons_of_mem _ he), p2⟩
    have hc := (h.ok _ List.mem_cons_self).1
    rw [tgOf]
    refine List.pairwise_cons.mpr ⟨fun b hb => ?_, List.pairwise_cons.mpr ⟨fun b hb => ?_, tg_keys h'⟩⟩
    · rcases List.mem_cons.mp hb with rfl | hb
      · intro z
        have := congrArg Prod.snd z
        exact hc.step.2.2.2 c hc this.symm
      · obtain ⟨e, he, q⟩ := mem_tgOf.mp hb
        rcases q with rfl | rfl
        · intro z; injection z with z1 z2; exact (p1 e he).1 ⟨z2, z1⟩
        · intro z; injection z with z1 z2; exact hc.step.2.2.2 e.1 (h'.ok e he).1 z2.symm
    · obtain ⟨e, he, q⟩ := mem_tgOf.mp hb
      rcases q with rfl | rfl
      · intro z; injection z with z1 z2; exact (h'.ok e he).1.step.2.2.2 c hc z2
      · intro z; injection z with z1 z2; exact (p1 e he).2 ⟨sw_inj4 hc (h'.ok e he).1 z2, z1⟩
theorem sw_sw4 {c : Nat} (h : isL4 c) : sw (sw c) = c := by rcases h with rfl | rfl | rfl | rfl <;> decide
/-- the targets of a graph: back by the inverse step -/
def Sym (tg : Tg) : Prop := ∀ u s v, tlk tg u s = some v → tlk tg v (sw s) = some u
theorem sym_of {n : Nat} {es : List Ed} (h : EOk n es) : Sym (tgOf es) := fun u s v e => by
  obtain ⟨x, hx, q⟩ := mem_tgOf.mp (tlk_mem e)
  refine mem_tlk (tg_keys h) (mem_tgOf.mpr ⟨x, hx, ?_⟩)
  rcases q with q | q
  · cases q; exact .inr rfl
  · cases q; rw [sw_sw4 (h.ok x hx).1]; exact .inl rfl
theorem end_app (tg : Tg) : ∀ (l m : List Nat) (u : Nat), endN tg u (l ++ m) = (endN tg u l).bind fun v => endN tg v m
  | [], m, u => rfl
  | s :: l, m, u => by
    rw [List.cons_append, endN, endN]
    cases tlk tg u s with
    | none => rfl
    | some v => exact end_app tg l m v
theorem wk_app {tg : Tg} : ∀ {l : List Nat} {u v : Nat}, endN tg u l = some v → ∀ m, wk tg u (l ++ m) = wk tg u l ++ wk tg v m
  | [], u, v, e, m => by cases e; rfl
  | s :: l, u, v, e, m => by
    rw [endN] at e
    rw [List.cons_append, wk, wk]
    cases q : tlk tg u s with
    | none => rw [q] at e; cases e
    | some w =>
      rw [q] at e
      show w :: wk tg w (l ++ m) = w :: (wk tg w l) ++ wk tg v m
      rw [wk_app e m]; rfl
/-- a stack of steps, its top first, keeps the end when a step is put on it -/
theorem push_end {tg : Tg} (hs : Sym tg) {u v w : Nat} {st : List Nat} {c : Nat} (hc : c ∈ stepC) (e : endN tg u st.reverse = some v) (t : tlk tg v c = some w) : endN tg u (push st c).reverse = some w := by
  cases st with
  | nil =>
    have : push [] c = [c] := rfl
    rw [this]
    cases e
    show (match tlk tg u c with | none => none | some v => endN tg v []) = some w
    rw [t]; rfl
  | cons y st =>
    rw [push_cons]
    rw [List.reverse_cons, end_app] at e
    by_cases q : y = sw c
    · rw [if_pos q]
      cases e1 : endN tg u st.reverse with
      | none => rw [e1] at e; cases e
      | some x =>
        rw [e1] at e
        have e : (match tlk tg x y with | none => none | some v => endN tg v []) = some v := e
        cases e2 : tlk tg x y with
        | none => rw [e2] at e; cases e
        | some z =>
          rw [e2] at e
          cases e
          have h1 := hs _ _ _ t
          have h2 := hs _ _ _ e2
          rw [q] at h2
          have : sw (sw c) = c := by
            have : ∀ c ∈ stepC, sw (sw c) = c := by decide
            exact this c hc
          rw [this, t] at h2
          exact h2.symm
    · rw [if_neg q, List.reverse_cons, List.reverse_cons, end_app, end_app]
      rw [e]
      show (match tlk tg v c with | none => none | some v => endN tg v []) = some w
      rw [t]; rfl
theorem run_end {tg : Tg} (hs : Sym tg) : ∀ (l : List Nat) {u v w : Nat} {st : List Nat}, (∀ c ∈ l, c ∈ stepC) → endN tg u st.reverse = some v → endN tg v l = some w → endN tg u (runP st l).reverse = some w
  | [], u, v, w, st, _, e, t => by cases t; exact e
  | c :: l, u, v, w, st, hl, e, t => by
    rw [endN] at t
    cases q : tlk tg v c with
    | none => rw [q] at t; cases t
    | some x =>
      rw [q] at t
      exact run_end hs l (st := push st c) (fun d hd => hl d (List.mem_cons_of_mem _ hd)) (push_end hs (hl c List.mem_cons_self) e q) t
theorem end_red {tg : Tg} (hs : Sym tg) {l : List Nat} (hl : IsP l) {u w : Nat} (e : endN tg u l = some w) : endN tg u (red l) = some w := run_end hs l (st := []) hl rfl e
theorem inv_cons (s : Nat) (l : List Nat) : inv (s :: l) = inv l ++ [sw s] := by simp [inv]
theorem end_inv {tg : Tg} (hs : Sym tg) : ∀ {l : List Nat} {u w : Nat}, endN tg u l = some w → endN tg w (inv l) = some u ∧ w :: wk tg w (inv l) = (u :: wk tg u l).reverse
  | [], u, w, e => by cases e; exact ⟨rfl, rfl⟩
  | s :: l, u, w, e => by
    rw [endN] at e
    cases q : tlk tg u s with
    | none => rw [q] at e; cases e
    | some v =>
      rw [q] at e
      obtain ⟨h1, h2⟩ := end_inv hs e
      have b := hs _ _ _ q
      rw [inv_cons]
      refine ⟨?_, ?_⟩
      · rw [end_app, h1]
        show (match tlk tg v (sw s) with | none => none | some v => endN tg v []) = some u
        rw [b]; rfl
      · have k1 : wk tg v [sw s] = [u] := by rw [wk, b]; rfl
        have k2 : wk tg u (s :: l) = v :: wk tg v l := by rw [wk, q]
        rw [wk_app h1, k1, k2, ← List.cons_append, h2, List.reverse_cons (a := u)]
theorem end_all {tg : Tg} {n : Nat} (h : ∀ u < n, ∀ s ∈ stepC, ∃ v < n, tlk tg u s = some v) : ∀ (l : List Nat) (u : Nat), u < n → IsP l → ∃ w < n, endN tg u l = some w
  | [], u, hu, _ => ⟨u, hu, rfl⟩
  | s :: l, u, hu, hl => by
    obtain ⟨v, hv, e⟩ := h u hu s (hl s List.mem_cons_self)
    obtain ⟨w, hw, e2⟩ := end_all h l v hv fun c hc => hl c (List.mem_cons_of_mem _ hc)
    exact ⟨w, hw, by rw [endN, e]; exact e2⟩
theorem full_all {n : Nat} {es : List Ed} (h : EOk n es) (f : ∀ c, isL4 c → (∀ u < n, ∃ v, (c, u, v) ∈ es) ∧ ∀ v < n, ∃ u, (c, u, v) ∈ es) : ∀ u < n, ∀ s ∈ stepC, ∃ v < n, tlk (tgOf es) u s = some v := fun u hu s hs => by
  have k := tg_keys h
  have low : ∀ c, isL4 c → ∃ v < n, tlk (tgOf es) u c = some v := fun c hc => by
    obtain ⟨v, hv⟩ := (f c hc).1 u hu
    exact ⟨v, (h.ok _ hv).2.2, mem_tlk k (mem_tgOf.mpr ⟨_, hv, .inl rfl⟩)⟩
  have up : ∀ c, isL4 c → ∃ v < n, tlk (tgOf es) u (sw c) = some v := fun c hc => by
    obtain ⟨v, hv⟩ := (f c hc).2 u hu
    exact ⟨v, (h.ok _ hv).2.1, mem_tlk k (mem_tgOf.mpr ⟨_, hv, .inr rfl⟩)⟩
  have cs : ∀ s ∈ stepC, isL4 s ∨ ∃ c, isL4 c ∧ s = sw c := by
    intro s hs
    have : s = 97 ∨ s = 65 ∨ s = 98 ∨ s = 66 ∨ s = 99 ∨ s = 67 ∨ s = 100 ∨ s = 68 := by
      simpa [stepC] using hs
    rcases this with rfl | rfl | rfl | rfl | rfl | rfl | rfl | rfl
    · exact .inl (.inl rfl)
    · exact .inr ⟨97, .inl rfl, by decide⟩
    · exact .inl (.inr (.inl rfl))
    · exact .inr ⟨98, .inr (.inl rfl), by decide⟩
    · exact .inl (.inr (.inr (.inl rfl)))
    · exact .inr ⟨99, .inr (.inr (.inl rfl)), by decide⟩
    · exact .inl (.inr (.inr (.inr rfl)))
    · exact .inr ⟨100, .inr (.inr (.inr rfl)), by decide⟩
  rcases cs s hs with h | ⟨c, hc, rfl⟩
  · exact low s h
  · exact up c hc
theorem law_back_ok {c : Nat} (h : c ∈ stepC) : m_law_back [tS [c]] = .ok (.t (tS [sw c])) [] := by
  obtain ⟨d, e1, e2⟩ := xor_step c h
  have e3 : O.index (.str (Str.ofString "aAbBcCdD")) [tS [c]] = some (.t (.int (ixC c : Nat))) := by rw [q_O_index_1, occ_step c h]; rfl
  have e4 : O.ix (.str (Str.ofString "aAbBcCdD")) (.int d) = some (.t (tS [sw c])) := by
    rw [q_O_ix_4, stepsS, S_cps, if_pos (by rw [S_len]; decide), atI_at e2]; rfl
  simp [m_law_back, b_law_back, -q_O_index_1, -q_O_index_2, e3, e1, -q_O_ix_4, e4]
theorem lt_step {n : Nat} {es : List Ed} {c u v : Nat} (h : EOk n (es ++ [(c, u, v)])) (hz : es.length < 100000) (a x2 x3 x4 : Dx.Slot) :
    ∃ y2 y3 y4, S.foB bl_law_targets_1 (G.tup 3 (G.cons (G.name 2) (G.cons (G.name 3) (G.cons (G.name 4) G.nil)))) (edD (c, u, v)) [a, .od true (tgD (tgOf es)), x2, x3, x4] = .ok .nx [a, .od true (tgD (tgOf (es ++ [(c, u, v)]))), y2, y3, y4] := by
  obtain ⟨f1, f2, f3⟩ := fresh_e h
  obtain ⟨h1, ⟨hc, hu, hv⟩, h3⟩ := h.pre
  dsimp only at hc hu hv
  have bk := law_back_ok hc.step.1
  have k1 : kyB true (.tup [.int u, .str (S [c])]) = some (keyT u c) := rfl
  have k2 : kyB true (.tup [.int v, .str (S [sw c])]) = some (keyT v (sw c)) := rfl
  have p1 := put_tg (v := v) f1
  have p2 := put_tg (v := u) f3
  have len : ∀ es : List Ed, (tgOf es).length = 2 * es.length := by
    intro es
    induction es with
    | nil => rfl
    | cons e es ih => obtain ⟨c, u, v⟩ := e; rw [tgOf, List.length_cons, List.length_cons, ih, List.length_cons]; omega
  have tl : (tgD (tgOf es)).length < 1000000 := by rw [List.length_map, len]; omega
  have tl2 : (tgD (tgOf es ++ [((u, c), v)])).length < 1000000 := by rw [List.length_map, List.length_append, len]; simp; omega
  have fin : tgOf (es ++ [(c, u, v)]) = tgOf es ++ [((u, c), v)] ++ [((v, sw c), u)] := by rw [tgOf_app, List.append_assoc]; rfl
  rw [fin]
  simp only [edD]
  generalize hA : tgD (tgOf es) = A at *
  generalize hB : tgD (tgOf es ++ [((u, c), v)]) = B at *
  generalize hC : tgD (tgOf es ++ [((u, c), v)] ++ [((v, sw c), u)]) = C at *
  refine ⟨.tr (tS [c]), .tr (.int u), .tr (.int v), ?_⟩
  simp [bl_law_targets_1, bk, k1, k2, p1, p2, tl, tl2]
theorem lt_forE {n : Nat} (a : Dx.Slot) : ∀ (fs es : List Ed) (x2 x3 x4 : Dx.Slot), EOk n (es ++ fs) → es.length + fs.length < 100000 →
    ∃ y2 y3 y4, forR (S.foB bl_law_targets_1 (G.tup 3 (G.cons (G.name 2) (G.cons (G.name 3) (G.cons (G.name 4) G.nil))))) (fs.map edD) [a, .od true (tgD (tgOf es)), x2, x3, x4] = .ok .nx [a, .od true (tgD (tgOf (es ++ fs))), y2, y3, y4]
  | [], es, x2, x3, x4, h, hz => ⟨x2, x3, x4, by rw [List.append_nil]; rfl⟩
  | (c, u, v) :: fs, es, x2, x3, x4, h, hz => by
    have e : es ++ (c, u, v) :: fs = (es ++ [(c, u, v)]) ++ fs := by simp
    rw [e] at h ⊢
    have h1 : EOk n (es ++ [(c, u, v)]) := ⟨fun f hf => h.ok f (List.mem_append.mpr (.inl hf)), (List.pairwise_append.mp h.pw).1⟩
    rw [List.length_cons] at hz
    obtain ⟨y2, y3, y4, st⟩ := lt_step h1 (by omega) a x2 x3 x4
    obtain ⟨z2, z3, z4, ih⟩ := lt_forE a fs (es ++ [(c, u, v)]) y2 y3 y4 h (by simp; omega)
    refine ⟨z2, z3, z4, ?_⟩
    rw [List.map_cons, forR, st]
    exact ih
theorem law_targets_ok {n : Nat} {es : List Ed} (h : EOk n es) (hz : es.length < 100000) : m_law_targets [.lst (es.map edD)] = .ok (.g true (tgD (tgOf es))) [] := by
  obtain ⟨y2, y3, y4, e⟩ := lt_forE (n := n) (.tr (.lst (es.map edD))) es [] .un .un .un (by simpa using h) (by simpa using hz)
  rw [List.nil_append] at e
  have e : forR (S.foB bl_law_targets_1 (G.tup 3 (G.cons (G.name 2) (G.cons (G.name 3) (G.cons (G.name 4) G.nil))))) (es.map edD) [.tr (.lst (es.map edD)), .od true [], .un, .un, .un] = _ := e
  simp [m_law_targets, b_law_targets, e, -forR]
/-! the path expected -/
/-- what is left by a test that is the same for each -/
theorem lcR_filter {vs : List Nat} {g : GM} {t : TM} {e : EM} {ρ : Dx.Env} {p : D → Bool} : ∀ (ds : List D), (∀ d ∈ ds, lcR vs g t e [d] ρ = .ok (if p d = true then [d] else []) ρ) → lcR vs g t e ds ρ = .ok (ds.filter p) ρ
  | [], _ => rfl
  | d :: ds, h => by
    obtain ⟨zs, ρ', e1, e2, e3⟩ := lcR_inv (vs := vs) (g := g) (t := t) (e := e) (d :: ds) (fun i ρ' ys => ρ' = ρ ∧ ys = ((d :: ds).take i).filter p) 0 ρ [] ⟨rfl, rfl⟩ (by
      rintro i x ρ' ys hx ⟨rfl, rfl⟩
      refine ⟨_, _, h x (List.mem_of_getElem? hx), rfl, ?_⟩
      rw [List.take_add_one]
      simp only [Nat.zero_add]
      rw [hx, List.filter_append]
      cases q : p x <;> simp [q])
    rw [e1, e2]
    simp only [List.nil_append, Nat.zero_add] at e3
    rw [e3, List.take_of_length_le (Nat.le_refl _)]
theorem lcR_filterM {α : Type} {vs : List Nat} {g : GM} {t : TM} {e : EM} {ρ : Dx.Env} {f : α → D} {p : α → Bool} (xs : List α) (h : ∀ a ∈ xs, lcR vs g t e [f a] ρ = .ok (if p a = true then [f a] else []) ρ) : lcR vs g t e (xs.map f) ρ = .ok ((xs.filter p).map f) ρ := by
  obtain ⟨zs, ρ', e1, e2, e3⟩ := lcR_inv (vs := vs) (g := g) (t := t) (e := e) (xs.map f) (fun i ρ' ys => ρ' = ρ ∧ ys = ((xs.take i).filter p).map f) 0 ρ [] ⟨rfl, rfl⟩ (by
    rintro i x ρ' ys hx ⟨rfl, rfl⟩
    rw [List.getElem?_map] at hx
    cases q : xs[i]? with
    | none => rw [q] at hx; cases hx
    | some a =>
      rw [q] at hx
      cases hx
      refine ⟨_, _, h a (List.mem_of_getElem? q), rfl, ?_⟩
      rw [List.take_add_one]
      simp only [Nat.zero_add]
      rw [q, List.filter_append, List.map_append]
      cases z : p a <;> simp [z])
  rw [e1, e2]
  simp only [List.nil_append, Nat.zero_add] at e3
  rw [e3, List.length_map, List.take_of_length_le (Nat.le_refl _)]
theorem abcdS : Str.ofString "abcd" = S [97, 98, 99, 100] := by decide +kernel
theorem pop_at {pre post : List Nat} {v : Nat} (h : pre.length < 1000000) : LM.popAt (nD (pre ++ v :: post)) [.int (pre.length : Nat)] = some (.int (v : Nat), nD (pre ++ post)) := by
  have h1 : (nD (pre ++ v :: post))[pre.length]? = some (.int (v : Nat)) := by simp [nD]
  have h2 : (nD (pre ++ v :: post)).eraseIdx pre.length = nD (pre ++ post) := by
    rw [nD, List.map_append, List.eraseIdx_append_of_length_le (by simp)]
    simp [nD]
  rw [q_LM_popAt_1, if_pos ⟨by omega, by simp; omega, by omega⟩, Int.toNat_natCast, h1, h2]
  rfl
theorem nodup_mid {pre post : List Nat} {v : Nat} (h : (pre ++ v :: post).Nodup) : v ∉ pre ++ post ∧ (pre ++ post).Nodup := by
  obtain ⟨h1, h2, h3⟩ := List.nodup_append.mp h
  obtain ⟨h4, h5⟩ := List.nodup_cons.mp h2
  refine ⟨fun z => ?_, List.nodup_append.mpr ⟨h1, h5, fun a ha b hb => h3 a ha b (List.mem_cons_of_mem _ hb)⟩⟩
  rcases List.mem_append.mp z with z | z
  · exact h3 v z v List.mem_cons_self rfl
  · exact h4 z
/-- each node has the letter, both ways -/
def fullC (n : Nat) (es : List Ed) (c : Nat) : Prop := (∀ u < n, ∃ v, (c, u, v) ∈ es) ∧ ∀ v < n, ∃ u, (c, u, v) ∈ es
structure InE (n c : Nat) (es0 : List Ed) (i : Nat) (es : List Ed) (un : List Nat) : Prop where
  eok : EOk n es
  len : un.length + i = n
  nd : un.Nodup
  lt : ∀ x ∈ un, x < n
  src : ∀ e ∈ es, e.1 = c → e.2.1 < i ∧ e.2.2 ∉ un
  le : es.length ≤ es0.length + i
  ltr : ∀ e ∈ es, e.1 ≤ c
  sub : ∀ e ∈ es0, e ∈ es
  fu : es.length = es0.length + i → (∀ j < i, ∃ v, (c, j, v) ∈ es) ∧ ∀ v < n, v ∈ un ∨ ∃ u, (c, u, v) ∈ es
theorem InE.skip {n c i : Nat} {es0 es : List Ed} {pre post : List Nat} {v : Nat} (h : InE n c es0 i es (pre ++ v :: post)) : InE n c es0 (i + 1) es (pre ++ post) := by
  have nd := nodup_mid h.nd
  have ln := h.len
  simp at ln
  refine ⟨h.eok, by simp; omega, nd.2, fun x hx => h.lt x ?_, fun e he hc => ⟨by have := (h.src e he hc).1; omega, fun z => (h.src e he hc).2 ?_⟩, by have := h.le; omega, h.ltr, h.sub, fun e => by have := h.le; omega⟩
  · rcases List.mem_append.mp hx with z | z
    · exact List.mem_append.mpr (.inl z)
    · exact List.mem_append.mpr (.inr (List.mem_cons_of_mem _ z))
  · rcases List.mem_append.mp z with z | z
    · exact List.mem_append.mpr (.inl z)
    · exact List.mem_append.mpr (.inr (List.mem_cons_of_mem _ z))
theorem InE.add {n c i : Nat} {es0 es : List Ed} {pre post : List Nat} {v : Nat} (hc : isL4 c) (h : InE n c es0 i es (pre ++ v :: post)) : InE n c es0 (i + 1) (es ++ [(c, i, v)]) (pre ++ post) := by
  have s := h.skip
  have nd := nodup_mid h.nd
  have ln := h.len
  simp at ln
  have vm : v ∈ pre ++ v :: post := List.mem_append.mpr (.inr List.mem_cons_self)
  have mem : ∀ e ∈ es ++ [(c, i, v)], e ∈ es ∨ e = (c, i, v) := fun e he => by
    rcases List.mem_append.mp he with z | z
    · exact .inl z
    · exact .inr (List.mem_singleton.mp z)
  have inl : ∀ {e}, e ∈ es → e ∈ es ++ [(c, i, v)] := fun he => List.mem_append.mpr (.inl he)
  have inr : (c, i, v) ∈ es ++ [(c, i, v)] := List.mem_append.mpr (.inr List.mem_cons_self)
  refine ⟨⟨fun e he => ?_, ?_⟩, s.len, s.nd, s.lt, fun e he hc' => ?_, by have := h.le; simp; omega, fun e he => ?_, fun e he => inl (h.sub e he), fun e => ?_⟩
  · rcases mem e he with z | rfl
    · exact h.eok.ok e z
    · exact ⟨hc, by dsimp only; omega, h.lt v vm⟩
  · refine List.pairwise_append.mpr ⟨h.eok.pw, List.pairwise_singleton _ _, fun e he f hf => ?_⟩
    rw [List.mem_singleton.mp hf]
    refine ⟨fun z => ?_, fun z => ?_⟩
    · have := (h.src e he z.1).1
      have z2 := z.2
      dsimp only at z2
      omega
    · refine (h.src e he z.1).2 ?_
      rw [z.2]; exact vm
  · rcases mem e he with z | rfl
    · exact s.src e z hc'
    · exact ⟨Nat.lt_succ_self i, nd.1⟩
  · rcases mem e he with z | rfl
    · exact h.ltr e z
    · exact Nat.le_refl _
  · obtain ⟨f1, f2⟩ := h.fu (by simp at e; omega)
    refine ⟨fun j hj => ?_, fun w hw => ?_⟩
    · by_cases ji : j = i
      · subst ji; exact ⟨v, inr⟩
      · obtain ⟨w, hw⟩ := f1 j (by omega); exact ⟨w, inl hw⟩
    · rcases f2 w hw with z | ⟨u, z⟩
      · rcases List.mem_append.mp z with z | z
        · exact .inl (List.mem_append.mpr (.inl z))
        · rcases List.mem_cons.mp z with rfl | z
          · exact .inr ⟨i, inr⟩
          · exact .inl (List.mem_append.mpr (.inr z))
      · exact .inr ⟨u, inl z⟩
theorem le_in {n c i : Nat} {es0 es : List Ed} {un : List Nat} {de : Nat} (hc : isL4 c) (hn : n ≤ 1000) (hm : es0.length ≤ 10000) (hi : i < n) (h : InE n c es0 i es un) (hd : 2 ≤ de ∧ de ≤ 4) {ds : List D} (P : Pool ds) (x6 x7 : Dx.Slot) :
    ∃ es' un' ds' y, InE n c es0 (i + 1) es' un' ∧ Pool ds' ∧ S.foB bl_law_edges_1 (G.name 6) (.int (i : Nat)) [.ol true ds, .tr (.int n), .tr (.int de), .ol false (es.map edD), .tr (tS [c]), .ol false (nD un), x6, x7] =
      .ok .nx [.ol true ds', .tr (.int n), .tr (.int de), .ol false (es'.map edD), .tr (tS [c]), .ol false (nD un'), .tr (.int (i : Nat)), y] := by
  have ul : 0 < un.length := by have := h.len; omega
  have un1 : un.length ≤ 1000 := by have := h.len; omega
  obtain ⟨k, ds1, hk, P1, e1⟩ := draw_ok P un.length ul (by omega)
  obtain ⟨pre, v, post, rfl, rfl⟩ : ∃ pre v post, un = pre ++ v :: post ∧ k = pre.length := by
    refine ⟨un.take k, un[k], un.drop (k + 1), ?_, by rw [List.length_take]; omega⟩
    rw [← List.drop_eq_getElem_cons hk, List.take_append_drop]
  have pp := pop_at (pre := pre) (post := post) (v := v) (by omega)
  have el : es.length < 16000000 := by have := h.le; omega
  have ln : ((nD (pre ++ v :: post)).length : Int) = ((pre ++ v :: post).length : Nat) := by rw [nD, List.length_map]
  have app : (es ++ [(c, i, v)]).map edD = es.map edD ++ [.tup [.str (S [c]), .int (i : Nat), .int (v : Nat)]] := by rw [List.map_append]; rfl
  have l16 : (nD (pre ++ v :: post)).length ≤ 16000000 := by rw [nD, List.length_map]; omega
  by_cases d4 : de = 4
  · subst d4
    refine ⟨es ++ [(c, i, v)], pre ++ post, ds1, .tr (.int (v : Nat)), h.add hc, P1, ?_⟩
    rw [app]
    generalize nD (pre ++ v :: post) = U at *
    generalize nD (pre ++ post) = U2 at *
    rw [← ln] at e1
    simp [bl_law_edges_1, e1, pp, el, -q_LM_popAt_1, l16]
  · obtain ⟨k2, ds2, hk2, P2, e2⟩ := draw_ok P1 de (by omega) (by omega)
    by_cases k0 : k2 = 0
    · subst k0
      refine ⟨es, pre ++ post, ds2, .tr (.int (v : Nat)), h.skip, P2, ?_⟩
      generalize nD (pre ++ v :: post) = U at *
      generalize nD (pre ++ post) = U2 at *
      rw [← ln] at e1
      simp [bl_law_edges_1, e1, e2, pp, el, -q_LM_popAt_1, l16, d4, show ¬ (de : Int) = 4 by omega]
    · refine ⟨es ++ [(c, i, v)], pre ++ post, ds2, .tr (.int (v : Nat)), h.add hc, P2, ?_⟩
      rw [app]
      generalize nD (pre ++ v :: post) = U at *
      generalize nD (pre ++ post) = U2 at *
      rw [← ln] at e1
      simp [bl_law_edges_1, e1, e2, pp, el, -q_LM_popAt_1, l16, d4, show ¬ (de : Int) = 4 by omega, show 0 < k2 by omega]
theorem upD_nD (n : Nat) : I.upD 0 n = nD (List.range n) := by
  unfold I.upD nD
  congr 1
  funext i
  simp
theorem le_out {n c : Nat} {es : List Ed} {de : Nat} (hc : isL4 c) (hn : n ≤ 1000) (hm : es.length ≤ 10000) (h : EOk n es) (lt : ∀ e ∈ es, e.1 < c) (hd : 2 ≤ de ∧ de ≤ 4) {ds : List D} (P : Pool ds) (x4 x5 x6 x7 : Dx.Slot) :
    ∃ es' ds' y5 y6 y7, EOk n es' ∧ es'.length ≤ es.length + n ∧ (∀ e ∈ es', e.1 ≤ c) ∧ (∀ e ∈ es, e ∈ es') ∧ (es'.length = es.length + n → fullC n es' c) ∧ Pool ds' ∧ S.foB bl_law_edges_2 (G.name 4) (tS [c]) [.ol true ds, .tr (.int n), .tr (.int de), .ol false (es.map edD), x4, x5, x6, x7] =
      .ok .nx [.ol true ds', .tr (.int n), .tr (.int de), .ol false (es'.map edD), .tr (tS [c]), y5, y6, y7] := by
  obtain ⟨ρ', e, ⟨es', un', ds', y6, y7, rfl, h', P'⟩⟩ := forR_inv (B := S.foB bl_law_edges_1 (G.name 6)) (I.upD 0 n)
    (fun i ρ => ∃ es' un' ds' y6 y7, ρ = [.ol true ds', .tr (.int n), .tr (.int de), .ol false (es'.map edD), .tr (tS [c]), .ol false (nD un'), y6, y7] ∧ InE n c es i es' un' ∧ Pool ds') 0 _
    ⟨es, List.range n, ds, x6, x7, rfl, ⟨h, by simp, List.nodup_range, fun x hx => List.mem_range.mp hx, fun e he hc' => by have := lt e he; omega, by omega, fun e he => by have := lt e he; omega, fun _ he => he, fun _ => ⟨fun j hj => by omega, fun v hv => .inl (List.mem_range.mpr hv)⟩⟩, P⟩ (by
      rintro i d ρ hi ⟨es', un', ds', y6, y7, rfl, h', P'⟩
      obtain ⟨hin, rfl⟩ := upD_at hi
      rw [Nat.zero_add] at h' ⊢
      obtain ⟨es2, un2, ds2, y, h2, P2, e⟩ := le_in hc hn hm hin h' hd P' y6 y7
      rw [Int.zero_add]
      exact ⟨_, e, es2, un2, ds2, _, _, rfl, h2, P2⟩)
  rw [upD_len, Nat.zero_add] at h'
  have un0 : un' = [] := List.length_eq_zero_iff.mp (by have := h'.len; omega)
  refine ⟨es', ds', .ol false (nD un'), y6, y7, h'.eok, h'.le, h'.ltr, h'.sub, fun e => ?_, P', ?_⟩
  · obtain ⟨f1, f2⟩ := h'.fu e
    refine ⟨f1, fun v hv => (f2 v hv).elim (fun z => ?_) id⟩
    rw [un0] at z; cases z
  rw [← upD_nD] at e
  simp [bl_law_edges_2, lrR, show (-4611686018427387904 : Int) ≤ n by omega, show (n : Int) < 4611686018427387904 by omega, show n ≤ 16000000 by omega, e, -forR]
theorem law_edges_full {ds : List D} (P : Pool ds) {n : Nat} (hn : n ≤ 1000) : ∃ es ds', EOk n es ∧ es.length ≤ 4 * n ∧ (es.length = 4 * n → ∀ c, isL4 c → fullC n es c) ∧ Pool ds' ∧ m_law_edges ds [.int n] = .ok (.f (es.map edD)) ds' := by
  obtain ⟨d, ds1, hd, P1, e1⟩ := draw_ok P 3 (by omega) (by omega)
  have e1' : m_law_draw ds [.int 3] = .ok (.t (.int d)) ds1 := e1
  have one (j : Nat) (hj : j < 4) {es : List Ed} (h : EOk n es) (hl : es.length ≤ j * n) (lt : ∀ e ∈ es, e.1 < 97 + j) {ds : List D} (P : Pool ds) (x4 x5 x6 x7 : Dx.Slot) := le_out (c := 97 + j) (by rcases j with _ | _ | _ | _ | j <;> simp [isL4] <;> omega) hn (by have : j * n ≤ 3 * n := Nat.mul_le_mul_right n (by omega); omega) h lt (de := 2 + d) (by omega) P x4 x5 x6 x7
  obtain ⟨ρ', e, ⟨es, ds2, y4, y5, y6, y7, rfl, h, hl, lt, fu, P2⟩⟩ := forR_inv (B := S.foB bl_law_edges_2 (G.name 4)) [tS [97], tS [98], tS [99], tS [100]]
    (fun j ρ => ∃ es ds' y4 y5 y6 y7, ρ = [.ol true ds', .tr (.int n), .tr (.int ((2 + d : Nat) : Int)), .ol false (es.map edD), y4, y5, y6, y7] ∧ EOk n es ∧ es.length ≤ j * n ∧ (∀ e ∈ es, e.1 < 97 + j) ∧ (es.length = j * n → ∀ c, 97 ≤ c → c < 97 + j → fullC n es c) ∧ Pool ds') 0 _
    ⟨[], ds1, .un, .un, .un, .un, rfl, ⟨fun _ h => (by cases h), .nil⟩, Nat.zero_le _, fun _ h => (by cases h), fun _ c h1 h2 => by omega, P1⟩ (by
      rintro j t ρ hj ⟨es, ds', y4, y5, y6, y7, rfl, h, hl, lt, fu, P'⟩
      rw [Nat.zero_add] at hl lt fu ⊢
      have j4 : j < 4 := (List.getElem?_eq_some_iff.mp hj).1
      have ht : t = tS [97 + j] := by rcases j with _ | _ | _ | _ | j <;> first | (cases hj; rfl) | omega
      subst ht
      obtain ⟨es2, ds2, z5, z6, z7, h2, hl2, lt2, sub, fu2, P2, e2⟩ := one j j4 h hl lt P' y4 y5 y6 y7
      refine ⟨_, e2, es2, ds2, _, _, _, _, rfl, h2, by rw [Nat.succ_mul]; omega, fun e he => Nat.lt_succ_of_le (lt2 e he), fun eq c h1 h3 => ?_, P2⟩
      rw [Nat.succ_mul] at eq
      by_cases cj : c = 97 + j
      · subst cj; exact fu2 (by omega)
      · obtain ⟨f1, f2⟩ := fu (by omega) c h1 (by omega)
        exact ⟨fun u hu => let ⟨v, hv⟩ := f1 u hu; ⟨v, sub _ hv⟩, fun v hv => let ⟨u, hu⟩ := f2 v hv; ⟨u, sub _ hu⟩⟩)
  refine ⟨es, ds2, h, hl, fun eq c hc => fu eq c (by rcases hc with rfl | rfl | rfl | rfl <;> omega) (by rcases hc with rfl | rfl | rfl | rfl <;> simp), P2, ?_⟩
  have d2 : (2 : Int) + d = ((2 + d : Nat) : Int) := by omega
  simp only [List.map_nil] at e
  simp [m_law_edges, b_law_edges, e1', abcdS, S_cps, d2, e, -forR, -Int.natCast_add]
theorem law_edges_ok {ds : List D} (P : Pool ds) {n : Nat} (hn : n ≤ 1000) : ∃ es ds', EOk n es ∧ es.length ≤ 4 * n ∧ Pool ds' ∧ m_law_edges ds [.int n] = .ok (.f (es.map edD)) ds' := by
  obtain ⟨es, ds', h1, h2, _, h3, h4⟩ := law_edges_full P hn
  exact ⟨es, ds', h1, h2, h3, h4⟩
theorem dg_default (tg : Tg) (u s : Nat) (ρ : Dx.Env) : dgR (.int (u : Nat)) ρ (some ((tlk tg u s).map fun v => D.int (v : Nat))) = .ok (.t (.int ((tlk tg u s).getD u : Nat))) ρ := by
  cases tlk tg u s <;> rfl
def nodB (n : Nat) : D → Bool
  | .int i => decide (0 ≤ i) && decide (i < n)
  | _ => false
theorem has_node_gen {d : D} (h : okT d) (n : Nat) (tg : Tg) : m_Graph_has_node [gD n tg, d] = .ok (.t (.bl (nodB n d))) [] := by
  have e := is_integer_ok h
  cases i : isI d with
  | false =>
    rw [i] at e
    have : nodB n d = false := by cases d <;> first | rfl | cases i
    simp [m_Graph_has_node, b_Graph_has_node, e, gD, this]
  | true =>
    obtain ⟨j, rfl⟩ := isI_of i
    rw [i] at e
    by_cases c : 0 ≤ j <;> by_cases c2 : j < n <;> simp [m_Graph_has_node, b_Graph_has_node, e, gD, c, c2, nodB]
/-- a comprehension with two fors whose outer turns leave the slots -/
theorem lc2R_flat {α : Type} {vs vs1 : List Nat} {g : GM} {t : TM} {s1 : IM} {g1 : GM} {t1 : TM} {e : EM} {ρ : Dx.Env} {f : α → D} {hs : α → List D} : ∀ (xs : List α), (∀ a ∈ xs, lc2R vs vs1 g t s1 g1 t1 e [f a] ρ = .ok (hs a) ρ) → lc2R vs vs1 g t s1 g1 t1 e (xs.map f) ρ = .ok (xs.map hs).flatten ρ
  | [], _ => rfl
  | a :: xs, hh => by
    have h1 := hh a List.mem_cons_self
    have ih := lc2R_flat (f := f) (hs := hs) xs fun a' ha => hh a' (List.mem_cons_of_mem _ ha)
    rw [List.map_cons, List.map_cons, List.flatten_cons]
    rw [lc2R] at h1 ⊢
    cases eg : g (f a) ρ with
    | none => rw [eg] at h1; cases h1
    | some ρ1 =>
      rw [eg] at h1
      dsimp only [onL] at h1 ⊢
      cases et : noX (t ρ1) with
      | bad => rw [et] at h1; cases h1
      | ex _ _ _ => rw [et] at h1; cases h1
      | ok b ρ2 =>
        rw [et] at h1
        dsimp only [Z.bind] at h1 ⊢
        cases b with
        | false =>
          simp only [Bool.false_eq_true, if_false, lc2R] at h1 ⊢
          injection h1 with h1 h2
          rw [h2, ih, ← h1]; rfl
        | true =>
          rw [if_pos rfl] at h1 ⊢
          cases es : noX (s1 ρ2) with
          | bad => rw [es] at h1; cases h1
          | ex _ _ _ => rw [es] at h1; cases h1
          | ok d1 ρ3 =>
            rw [es] at h1
            dsimp only [Z.bind] at h1 ⊢
            by_cases l : d1.length ≤ 4000
            · rw [if_pos l] at h1 ⊢
              cases el : lcR vs1 g1 t1 e d1 (unE ρ3 vs1) with
              | bad => rw [el] at h1; cases h1
              | ex _ _ _ => rw [el] at h1; cases h1
              | ok ys ρ4 =>
                rw [el] at h1
                simp only [Z.bind, lc2R] at h1 ⊢
                injection h1 with h1 h2
                rw [h2, ih, ← h1]
                simp only [Z.bind, List.append_nil]
            · rw [if_neg l] at h1; cases h1
theorem lcR_flat {α : Type} {vs : List Nat} {g : GM} {t : TM} {e : EM} {ρ : Dx.Env} {f : α → D} {hs : α → List D} (xs : List α) (h : ∀ a ∈ xs, lcR vs g t e [f a] ρ = .ok (hs a) ρ) : lcR vs g t e (xs.map f) ρ = .ok (xs.map hs).flatten ρ := by
  obtain ⟨zs, ρ', e1, e2, e3⟩ := lcR_inv (vs := vs) (g := g) (t := t) (e := e) (xs.map f) (fun i ρ' ys => ρ' = ρ ∧ ys = ((xs.take i).map hs).flatten) 0 ρ [] ⟨rfl, rfl⟩ (by
    rintro i x ρ' ys hx ⟨rfl, rfl⟩
    rw [List.getElem?_map] at hx
    cases q : xs[i]? with
    | none => rw [q] at hx; cases hx
    | some a =>
      rw [q] at hx
      cases hx
      refine ⟨_, _, h a (List.mem_of_getElem? q), rfl, ?_⟩
      rw [List.take_add_one]
      simp only [Nat.zero_add]
      rw [q, List.map_append, List.flatten_append]
      simp)
  rw [e1, e2]
  simp only [List.nil_append, Nat.zero_add] at e3
  rw [e3, List.length_map, List.take_of_length_le (Nat.le_refl _)]
/-- what has no target at u -/
def absU (tg : Tg) (u : Nat) : List D := (stepC.filter fun s => (tlk tg u s).isNone).map fun s => D.tup [.int (u : Nat), tS [s]]
def absA (n : Nat) (tg : Tg) : List D := ((List.range n).map (absU tg)).flatten
theorem absU_le (tg : Tg) (u : Nat) : (absU tg u).length ≤ 8 := by rw [absU, List.length_map]; exact List.length_filter_le _ _
theorem absA_le (tg : Tg) : ∀ n : Nat, (absA n tg).length ≤ 8 * n
  | 0 => Nat.le_refl _
  | n + 1 => by
    have : absA (n + 1) tg = absA n tg ++ absU tg n := by simp [absA, List.range_succ]
    rw [this, List.length_append]
    have := absA_le tg n
    have := absU_le tg n
    omega
theorem missing_ok {n : Nat} (hn : n ≤ 2000) (tg : Tg) : m_Graph_missing [gD n tg] = .ok (.f (absA n tg)) [] := by
  have inner : ∀ u : Nat, lcR [2] (G.name 2) ct_Graph_missing_1 ce_Graph_missing_1 (stepC.map fun c => tS [c]) [.tr (gD n tg), .tr (.int (u : Nat)), .un] = .ok (absU tg u) [.tr (gD n tg), .tr (.int (u : Nat)), .un] := fun u => by
    have one : ∀ s ∈ stepC, lcR [2] (G.name 2) ct_Graph_missing_1 ce_Graph_missing_1 [tS [s]] [.tr (gD n tg), .tr (.int (u : Nat)), .un] = .ok (if (tlk tg u s).isNone = true then [D.tup [.int (u : Nat), tS [s]]] else []) [.tr (gD n tg), .tr (.int (u : Nat)), .un] := fun s _ => by
      have g := dget_tg tg u s
      simp only [gD]
      cases q : tlk tg u s <;> rw [q] at g <;> simp [ct_Graph_missing_1, ce_Graph_missing_1, g]
    rw [lcR_flat stepC one]
    congr 1
    unfold absU
    generalize stepC = l
    induction l with
    | nil => rfl
    | cons s l ih => rw [List.map_cons, List.flatten_cons, ih, List.filter_cons]; cases q : (tlk tg u s).isNone <;> rfl
  have outer := lc2R_flat (vs := [1, 2]) (vs1 := [2]) (g := G.name 1) (t := T.yes) (s1 := I.of (E.k (.str (Str.ofString "aAbBcCdD")))) (g1 := G.name 2) (t1 := ct_Graph_missing_1) (e := ce_Graph_missing_1) (ρ := [.tr (gD n tg), .un, .un]) (f := fun u => D.int (u : Nat)) (hs := absU tg) (List.range n) fun u _ => by
    have i := inner u
    simp only [gD] at i ⊢
    simp [stepsS, S_cps, i, -lcR, show stepC.length ≤ 4000 by decide]
  have un : I.upD 0 n = (List.range n).map fun u => D.int (u : Nat) := by
    unfold I.upD; congr 1; funext i; simp
  simp only [gD] at outer ⊢
  simp [m_Graph_missing, b_Graph_missing, show (-4611686018427387904 : Int) ≤ n by omega, show (n : Int) < 4611686018427387904 by omega, un, outer, -lc2R, show n ≤ 4000 by omega]
  rfl
theorem target_ok {n : Nat} {tg : Tg} {u s : Nat} (hu : u < n) (hs : s ∈ stepC) : m_Graph_target [gD n tg, .int (u : Nat), tS [s]] = .ok (.t (optI (tlk tg u s))) [] := by
  have e1 := has_node_ok (n := n) (tg := tg) u
  rw [decide_eq_true hu] at e1
  have e2 := follow_ok n tg u s
  have e3 : O.nin (.str (S [s])) (.str (Str.ofString "aAbBcCdD")) = some (.t (.bl false)) := by
    have : ∀ s ∈ stepC, O.nin (.str (S [s])) (.str (Str.ofString "aAbBcCdD")) = some (.t (.bl false)) := by
      intro s hs
      have : s = 97 ∨ s = 65 ∨ s = 98 ∨ s = 66 ∨ s = 99 ∨ s = 67 ∨ s = 100 ∨ s = 68 := by simpa [stepC] using hs
      rcases this with rfl | rfl | rfl | rfl | rfl | rfl | rfl | rfl <;> rfl
    exact this s hs
  simp only [gD] at e1 e2 ⊢
  simp [m_Graph_target, b_Graph_target, e1, e2, e3, S_len]
theorem target_node {n : Nat} {tg : Tg} {d : D} (h : okT d) (no : nodB n d = false) (s : D) : m_Graph_target [gD n tg, d, s] = .ex "InvalidNode" [("value", d)] [] := by
  have e1 := has_node_gen h n tg
  rw [no] at e1
  simp only [gD] at e1 ⊢
  simp [m_Graph_target, b_Graph_target, e1]
/-- not a step -/
def noStep (d : D) : Prop := (∃ t, d.tyc = some t ∧ t ≠ .str) ∨ ∃ s, d = .str s ∧ s.length ≤ 100 ∧ (s.length ≠ 1 ∨ O.nin (.str s) (.str (Str.ofString "aAbBcCdD")) = some (.t (.bl true)))
theorem target_step {n : Nat} {tg : Tg} {u : Nat} (hu : u < n) {d : D} (h : noStep d) : m_Graph_target [gD n tg, .int (u : Nat), d] = .ex "InvalidPath" [("value", d)] [] := by
  have e1 := has_node_ok (n := n) (tg := tg) u
  rw [decide_eq_true hu] at e1
  simp only [gD] at e1 ⊢
  rcases h with ⟨t, ht, nt⟩ | ⟨s, rfl, hl, h⟩
  · have : isaB t .str = false := by cases t <;> first | rfl | exact absurd rfl nt
    simp [m_Graph_target, b_Graph_target, e1, ht, nt]
  · by_cases l1 : s.length = 1
    · rcases h with h | h
      · exact absurd l1 h
      · simp [m_Graph_target, b_Graph_target, e1, l1, h]
    · simp [m_Graph_target, b_Graph_target, e1, l1, show s.length ≤ 16000000 by omega, show ¬ (s.length : Int) = 1 by omega]
/-- == of data with itself -/
def Eqs (k : Nat) (d : D) : Prop := d.plain = true ∧ d.py.depth ≤ k
theorem Eqs.all {k : Nat} : ∀ {ds : List D}, (∀ x ∈ ds, Eqs k x) → D.plains ds = true ∧ PyData.depthAll (D.pys ds) ≤ k
  | [], _ => ⟨rfl, Nat.zero_le _⟩
  | d :: ds, h => by
    obtain ⟨h1, h2⟩ := h d List.mem_cons_self
    obtain ⟨i1, i2⟩ := Eqs.all fun x hx => h x (List.mem_cons_of_mem _ hx)
    exact ⟨by rw [D.plains, h1, i1]; rfl, by rw [D.pys, PyData.depthAll]; omega⟩
theorem Eqs.lst {k : Nat} {ds : List D} (h : ∀ x ∈ ds, Eqs k x) : Eqs (k + 1) (.lst ds) := by
  obtain ⟨i1, i2⟩ := Eqs.all h
  exact ⟨by rw [D.plain]; exact i1, by rw [D.py, PyData.depth]; omega⟩
theorem Eqs.tup {k : Nat} {ds : List D} (h : ∀ x ∈ ds, Eqs k x) : Eqs (k + 1) (.tup ds) := by
  obtain ⟨i1, i2⟩ := Eqs.all h
  exact ⟨by rw [D.plain]; exact i1, by rw [D.py, PyData.depth]; omega⟩
theorem Eqs.int (i : Int) (k : Nat) : Eqs k (.int i) := ⟨rfl, Nat.zero_le _⟩
theorem Eqs.str (s : Str) (k : Nat) : Eqs k (.str s) := ⟨rfl, Nat.zero_le _⟩
theorem Eqs.bl (b : Bool) (k : Nat) : Eqs k (.bl b) := ⟨rfl, Nat.zero_le _⟩
theorem Eqs.non (k : Nat) : Eqs k .non := ⟨rfl, Nat.zero_le _⟩
theorem Eqs.mono {k m : Nat} {d : D} (h : Eqs k d) (l : k ≤ m) : Eqs m d := ⟨h.1, Nat.le_trans h.2 l⟩
theorem eqD_plain {d e : D} (h : d.plain = true) (h' : e.plain = true) (l : d.py.depth ≤ 64) : (if d.plain = true ∧ e.plain = true ∧ Nat.min d.py.depth e.py.depth ≤ 64 then some (PyData.eqv d.py e.py) else none) = some (PyData.eqv d.py e.py) := if_pos ⟨h, h', Nat.le_trans (Nat.min_le_left _ _) l⟩
theorem eqD_self {k : Nat} {d : D} (h : Eqs k d) (hk : k ≤ 64) : Dx.eqD d d = some true := by
  have e := SeqAt.eqv_refl_plain _ (Dx.D.plain_py h.1)
  cases d with
  | int i => simp [Dx.eqD]
  | str s => simp [Dx.eqD]
  | bl b => simp [Dx.eqD]
  | non => rfl
  | lst ds =>
    cases ds with
    | nil => rfl
    | cons x xs =>
      rw [Dx.eqD]
      · rw [if_pos ⟨h.1, h.1, Nat.le_trans (Nat.min_le_left _ _) (Nat.le_trans h.2 hk)⟩, e]
      all_goals simp
  | tup ds =>
    cases ds with
    | nil => rfl
    | cons x xs =>
      rw [Dx.eqD]
      · rw [if_pos ⟨h.1, h.1, Nat.le_trans (Nat.min_le_left _ _) (Nat.le_trans h.2 hk)⟩, e]
      all_goals simp
  | _ => simp [Eqs] at h
theorem eq_self {k : Nat} {d : D} (h : Eqs k d) (hk : k ≤ 64) : O.eq d d = some (.t (.bl true)) := by rw [O.eq, eqD_self h hk]; rfl
theorem ne_self {k : Nat} {d : D} (h : Eqs k d) (hk : k ≤ 64) : O.ne d d = some (.t (.bl false)) := by rw [O.ne, eqD_self h hk]; rfl
theorem absU_pre (tg : Tg) (u : Nat) (l : List Nat) (s : Nat) : ((l ++ [s]).filter fun s => (tlk tg u s).isNone).map (fun s => D.tup [.int (u : Nat), tS [s]]) = (l.filter fun s => (tlk tg u s).isNone).map (fun s => D.tup [.int (u : Nat), tS [s]]) ++ (if (tlk tg u s).isNone = true then [D.tup [.int (u : Nat), tS [s]]] else []) := by
  rw [List.filter_append, List.map_append]
  cases q : (tlk tg u s).isNone <;> simp [q]
theorem rep_o {n : Nat} (hn : n ≤ 200) {o : Option Nat} (h : ∀ w, o = some w → w < n) : ∃ s, O.repr [optI o] = some (.t (.str s)) := by
  cases o with
  | none => exact ⟨_, (Shn.non 1 (by omega)).repr (by omega) (by omega)⟩
  | some v =>
    have := h v rfl
    exact ⟨_, (Shn.int (i := (v : Nat)) (w := 12) (by omega) (by omega) (by omega)).repr (by omega) (by omega)⟩
theorem ag_step {n : Nat} (hn : n ≤ 200) {tg : Tg} (hs : Sym tg) (lt : ∀ u s v, tlk tg u s = some v → v < n) {u s : Nat} (hu : u < n) (h : s ∈ stepC) (ab : List D) (hab : ab.length < 1000000) (x2 x5 x6 x7 : Dx.Slot) :
    ∃ y6, S.foB bl_law_agrees_1 (G.name 5) (tS [s]) [.tr (gD n tg), .tr (.dct true (tgD tg)), x2, .ol false ab, .tr (.int (u : Nat)), x5, x6, x7] =
      .ok .nx [.tr (gD n tg), .tr (.dct true (tgD tg)), x2, .ol false (ab ++ (if (tlk tg u s).isNone = true then [D.tup [.int (u : Nat), tS [s]]] else [])), .tr (.int (u : Nat)), .tr (tS [s]), y6, x7] := by
  have t1 := target_ok (tg := tg) hu h
  have g := dget_tg tg u s
  obtain ⟨sr, r⟩ := rep_o hn (fun w e => lt u s w e)
  have bk := law_back_ok h
  have hsw : sw s ∈ stepC := by
    have : ∀ c ∈ stepC, sw c ∈ stepC := by decide
    exact this s h
  cases q : tlk tg u s with
  | none =>
    rw [q] at t1 g r
    refine ⟨.tr .non, ?_⟩
    simp only [gD, optI] at t1 r ⊢
    simp [bl_law_agrees_1, t1, g, r, -q_O_repr_1, show ab.length < 16000000 by omega]
  | some v =>
    rw [q] at t1 g r
    have t2 := target_ok (n := n) (tg := tg) (lt u s v q) hsw
    rw [hs u s v q] at t2
    obtain ⟨sr2, r2⟩ := rep_o (o := some u) hn (fun w e => by cases e; exact hu)
    refine ⟨.tr (.int (v : Nat)), ?_⟩
    simp only [gD, optI] at t1 t2 r r2 ⊢
    simp [bl_law_agrees_1, t1, t2, g, r, r2, bk, -q_O_repr_1]
theorem ag_in {n : Nat} (hn : n ≤ 200) {tg : Tg} (hs : Sym tg) (lt : ∀ u s v, tlk tg u s = some v → v < n) {u : Nat} (hu : u < n) (ab : List D) (hab : ab.length < 900000) (x2 x4 x5 x6 x7 : Dx.Slot) :
    ∃ y5 y6, S.foB bl_law_agrees_2 (G.name 4) (.int (u : Nat)) [.tr (gD n tg), .tr (.dct true (tgD tg)), x2, .ol false ab, x4, x5, x6, x7] =
      .ok .nx [.tr (gD n tg), .tr (.dct true (tgD tg)), x2, .ol false (ab ++ absU tg u), .tr (.int (u : Nat)), y5, y6, x7] := by
  obtain ⟨ρ', e, ⟨y5, y6, rfl⟩⟩ := forR_inv (B := S.foB bl_law_agrees_1 (G.name 5)) (stepC.map fun c => tS [c])
    (fun j ρ => ∃ y5 y6, ρ = [.tr (gD n tg), .tr (.dct true (tgD tg)), x2, .ol false (ab ++ ((stepC.take j).filter fun s => (tlk tg u s).isNone).map fun s => D.tup [.int (u : Nat), tS [s]]), .tr (.int (u : Nat)), y5, y6, x7]) 0
    [.tr (gD n tg), .tr (.dct true (tgD tg)), x2, .ol false ab, .tr (.int (u : Nat)), x5, x6, x7] ⟨x5, x6, by simp⟩ (by
      rintro j d ρ hd ⟨y5, y6, rfl⟩
      rw [List.getElem?_map] at hd
      cases q : stepC[j]? with
      | none => rw [q] at hd; cases hd
      | some s =>
        rw [q] at hd
        cases hd
        have hz : (((stepC.take j).filter fun s => (tlk tg u s).isNone).map fun s => D.tup [.int (u : Nat), tS [s]]).length ≤ 8 := by
          rw [List.length_map]
          refine Nat.le_trans (List.length_filter_le _ _) ?_
          rw [List.length_take]; exact Nat.min_le_right _ _
        rw [Nat.zero_add]
        obtain ⟨z6, e⟩ := ag_step hn hs lt hu (List.mem_of_getElem? q) (ab ++ ((stepC.take j).filter fun s => (tlk tg u s).isNone).map fun s => D.tup [.int (u : Nat), tS [s]]) (by rw [List.length_append]; omega) x2 y5 y6 x7
        refine ⟨_, e, .tr (tS [s]), z6, ?_⟩
        rw [List.take_add_one, q]
        have := absU_pre tg u (stepC.take j) s
        rw [Option.toList_some, this, List.append_assoc])
  refine ⟨y5, y6, ?_⟩
  rw [List.length_map, Nat.zero_add, List.take_of_length_le (Nat.le_refl _)] at e
  simp [bl_law_agrees_2, stepsS, S_cps, e, -forR, show stepC.length ≤ 16000000 by decide]
  rfl
theorem absA_succ (n : Nat) (tg : Tg) : absA (n + 1) tg = absA n tg ++ absU tg n := by simp [absA, List.range_succ]
theorem ag_out {n : Nat} (hn : n ≤ 200) {tg : Tg} (hs : Sym tg) (lt : ∀ u s v, tlk tg u s = some v → v < n) : ∃ y4 y5 y6, forR (S.foB bl_law_agrees_2 (G.name 4)) (I.upD 0 n) [.tr (gD n tg), .tr (.dct true (tgD tg)), .tr (.int n), .ol false [], .un, .un, .un, .un] =
      .ok .nx [.tr (gD n tg), .tr (.dct true (tgD tg)), .tr (.int n), .ol false (absA n tg), y4, y5, y6, .un] := by
  obtain ⟨ρ', e, ⟨y4, y5, y6, rfl⟩⟩ := forR_inv (B := S.foB bl_law_agrees_2 (G.name 4)) (I.upD 0 n)
    (fun j ρ => ∃ y4 y5 y6, ρ = [.tr (gD n tg), .tr (.dct true (tgD tg)), .tr (.int n), .ol false (absA j tg), y4, y5, y6, .un]) 0 _ ⟨.un, .un, .un, rfl⟩ (by
      rintro j d ρ hd ⟨y4, y5, y6, rfl⟩
      obtain ⟨hj, rfl⟩ := upD_at hd
      rw [Nat.zero_add, Int.zero_add]
      have le := absA_le tg j
      obtain ⟨z5, z6, e⟩ := ag_in hn hs lt hj (absA j tg) (by omega) (.tr (.int n)) y4 y5 y6 .un
      exact ⟨_, e, _, z5, z6, by rw [absA_succ]⟩)
  rw [upD_len, Nat.zero_add] at e
  exact ⟨y4, y5, y6, e⟩
theorem filter_one : ∀ {l : List Nat} {p : Nat → Bool} {s : Nat}, l.Nodup → s ∈ l → p s = true → (l.filter fun x => p x && decide (x ≠ s)).length + 1 = (l.filter p).length
  | [], _, _, _, h, _ => by cases h
  | x :: l, p, s, nd, h, hp => by
    obtain ⟨n1, n2⟩ := List.nodup_cons.mp nd
    by_cases e : x = s
    · subst e
      have : (l.filter fun y => p y && decide (y ≠ x)) = l.filter p := List.filter_congr fun y hy => by
        have : y ≠ x := fun z => n1 (by rw [← z]; exact hy)
        simp [this]
      rw [List.filter_cons, List.filter_cons, this]
      simp [hp]
    · have hs : s ∈ l := by rcases List.mem_cons.mp h with z | z; exact absurd z.symm e; exact z
      have ih := filter_one n2 hs hp
      rw [List.filter_cons, List.filter_cons]
      by_cases q : p x = true
      · rw [q, decide_eq_true (show x ≠ s from e)]; simp only [Bool.and_self, if_true, List.length_cons]; omega
      · simp only [q, Bool.false_and]; simpa using ih
theorem cnt_step {r : Tg} {u s v : Nat} (hs : s ∈ stepC) (h : tlk r u s = none) (w : Nat) : (absU (((u, s), v) :: r) w).length + (if w = u then 1 else 0) = (absU r w).length := by
  rw [absU, absU, List.length_map, List.length_map]
  by_cases e : w = u
  · subst e
    rw [if_pos rfl]
    have : (stepC.filter fun x => (tlk (((w, s), v) :: r) w x).isNone) = stepC.filter fun x => (tlk r w x).isNone && decide (x ≠ s) := List.filter_congr fun x _ => by
      rw [tlk]
      by_cases q : s = x
      · subst q; simp
      · simp [q, Ne.symm q]
    rw [this]
    exact filter_one (by decide) hs (by rw [h]; rfl)
  · rw [if_neg e, Nat.add_zero]
    congr 2
    funext x
    rw [tlk, if_neg fun z => e z.1.symm]
theorem cnt_all {r : Tg} {u s v : Nat} (hs : s ∈ stepC) (h : tlk r u s = none) : ∀ n : Nat, (absA n (((u, s), v) :: r)).length + (if u < n then 1 else 0) = (absA n r).length
  | 0 => rfl
  | n + 1 => by
    have ih := cnt_all (v := v) hs h n
    have st := cnt_step (v := v) hs h n
    rw [absA_succ, absA_succ, List.length_append, List.length_append]
    by_cases e : n = u
    · subst e
      rw [if_pos rfl] at st
      rw [if_neg (Nat.lt_irrefl n)] at ih
      rw [if_pos (Nat.lt_succ_self n)]
      omega
    · rw [if_neg e] at st
      by_cases c : u < n
      · rw [if_pos c] at ih; rw [if_pos (by omega)]; omega
      · rw [if_neg c] at ih; rw [if_neg (by omega)]; omega
theorem absA_nil (n : Nat) : (absA n []).length = 8 * n := by
  induction n with
  | zero => rfl
  | succ n ih =>
    rw [absA_succ, List.length_append, ih]
    have : (absU [] n).length = 8 := by rw [absU, List.length_map]; rfl
    omega
theorem count_tg {n : Nat} : ∀ {tg : Tg}, tg.Pairwise (fun a b => a.1 ≠ b.1) → (∀ x ∈ tg, x.1.1 < n ∧ x.1.2 ∈ stepC) → tg.length + (absA n tg).length = 8 * n
  | [], _, _ => by rw [absA_nil]; simp
  | ((u, s), v) :: r, p, h => by
    obtain ⟨p1, p2⟩ := List.pairwise_cons.mp p
    obtain ⟨hu, hs⟩ := h _ List.mem_cons_self
    have ih := count_tg p2 fun x hx => h x (List.mem_cons_of_mem _ hx)
    have no : tlk r u s = none := by
      cases q : tlk r u s with
      | none => rfl
      | some w => exact absurd rfl (p1 ((u, s), w) (tlk_mem q))
    dsimp only at hu hs
    have c := cnt_all (v := v) hs no n
    rw [if_pos hu] at c
    rw [List.length_cons]; omega
theorem Eqs.absA (n : Nat) (tg : Tg) : ∀ x ∈ absA n tg, Eqs 1 x := fun x hx => by
  obtain ⟨l, hl, hx⟩ := List.mem_flatten.mp hx
  obtain ⟨u, _, rfl⟩ := List.mem_map.mp hl
  obtain ⟨s, _, rfl⟩ := List.mem_map.mp hx
  exact Eqs.tup (k := 0) fun y hy => by simp only [List.mem_cons, List.not_mem_nil, or_false] at hy; rcases hy with rfl | rfl; exact Eqs.int _ _; exact Eqs.str _ _
theorem is_complete_ok (n : Nat) (tg : Tg) (hn : n ≤ 2000) : m_Graph_is_complete [gD n tg] = .ok (.t (.bl (decide (tg.length = n * 8)))) [] := by
  have l8 : (S stepC).length = 8 := by rw [S_len]; rfl
  have lt : (tgD tg).length = tg.length := List.length_map _
  by_cases c : tg.length = n * 8
  · simp [m_Graph_is_complete, b_Graph_is_complete, gD, stepsS, l8, lt, c]
  · have c2 : ¬ (tg.length : Int) = (n : Int) * 8 := by omega
    simp [m_Graph_is_complete, b_Graph_is_complete, gD, stepsS, l8, lt, c, c2]
theorem agrees_ok {n : Nat} (hn : n ≤ 200) {es : List Ed} (hE : EOk n es) : m_law_agrees [gD n (tgOf es), .dct true (tgD (tgOf es)), .int n] = .ok (.t (.bl true)) [] := by
  have lt : ∀ u s v, tlk (tgOf es) u s = some v → v < n := fun u s v e => by
    obtain ⟨x, hx, q⟩ := mem_tgOf.mp (tlk_mem e)
    have := hE.ok x hx
    rcases q with q | q <;> cases q
    · exact this.2.2
    · exact this.2.1
  obtain ⟨y4, y5, y6, e1⟩ := ag_out hn (sym_of hE) lt
  have e2 := missing_ok (n := n) (by omega) (tgOf es)
  have e3 := is_complete_ok n (tgOf es) (by omega)
  have ct := count_tg (n := n) (tg_keys hE) fun x hx => by
    obtain ⟨e, he, q⟩ := mem_tgOf.mp hx
    have := hE.ok e he
    rcases q with rfl | rfl
    · exact ⟨this.2.1, this.1.step.1⟩
    · exact ⟨this.2.2, this.1.step.2.1⟩
  have ie : decide ((tgOf es).length = n * 8) = (absA n (tgOf es)).isEmpty := by
    cases q : absA n (tgOf es) with
    | nil => rw [q] at ct; simp at ct; simp; omega
    | cons a b => rw [q] at ct; simp at ct; simp; omega
  rw [ie] at e3
  have le := absA_le (tgOf es) n
  have eq := Eqs.absA n (tgOf es)
  have q1 := ne_self (Eqs.lst eq) (by decide)
  have q2 := eq_self (Eqs.lst eq) (by decide)
  have q3 := eq_self (Eqs.lst (k := 1) (ds := absA n (tgOf es) ++ [.non]) fun x hx => (List.mem_append.mp hx).elim (eq x) fun h => by rw [List.mem_singleton.mp h]; exact Eqs.non _) (by decide)
  obtain ⟨sb, rb⟩ : ∃ s, O.repr [.bl (absA n (tgOf es)).isEmpty] = some (.t (.str s)) := ⟨_, (Shn.bl _ 1 (by omega)).repr (by omega) (by omega)⟩
  have qe : O.eq (.lst (absA n (tgOf es))) (.lst []) = some (.t (.bl (absA n (tgOf es)).isEmpty)) := rfl
  generalize (absA n (tgOf es)).isEmpty = bb at *
  generalize absA n (tgOf es) = A at *
  simp only [gD] at e1 e2 e3 ⊢
  generalize tgD (tgOf es) = td at *
  simp [m_law_agrees, b_law_agrees, e1, e2, e3, q1, q2, q3, rb, qe, -q_eq_l0, -forR, -q_O_repr_1, show (-4611686018427387904 : Int) ≤ n by omega, show (n : Int) < 4611686018427387904 by omega, show A.length < 16000000 by omega, show A.length ≤ 16000000 by omega, show A.length + 1 ≤ 16000000 by omega]
theorem act_n {n : Nat} {tg : Tg} {d : D} (h : okT d) (no : nodB n d = false) (p : D) {s : Str} (sr : O.repr [d] = some (.t (.str s))) : m_law_actual [gD n tg, d, p] = .ok (.f [.str "node", .str s, .bl true]) [] := by
  have e := target_node (n := n) (tg := tg) h no p
  simp only [gD] at e ⊢
  simp [m_law_actual, b_law_actual, e, sr, -q_O_repr_1]
theorem act_s {n : Nat} {tg : Tg} {u : Nat} (hu : u < n) {d : D} (h : noStep d) {s : Str} (sr : O.repr [d] = some (.t (.str s))) : m_law_actual [gD n tg, .int (u : Nat), d] = .ok (.f [.str "step", .str s, .bl true]) [] := by
  have e := target_step (n := n) (tg := tg) hu h
  simp only [gD] at e ⊢
  simp [m_law_actual, b_law_actual, e, sr, -q_O_repr_1]
theorem shs12 {d : D} (h : d.plainE = true ∧ d.py.showable = true ∧ d.py.depth ≤ 10 ∧ PyData.leavesShort 30 d.py = true ∧ d.py.weight ≤ 2000) : ∃ s, O.repr [d] = some (.t (.str s)) := by
  have : Shn 2000 10 d := ⟨h.1, h.2.1, h.2.2.1, h.2.2.2.1, h.2.2.2.2⟩
  exact ⟨_, this.repr (by omega) (by omega)⟩
def N3 (n : Nat) : List D := [.int (-1), .int n, .bl true, .non, .str (Str.ofString "0"), .tup [.int 0], .lst [.int 0], .int 100000000000000000000, .dct false [], .tup [.int 0, .lst []]]
def N2 : List D := [.str (Str.ofString ""), .str (Str.ofString "ab"), .str (Str.ofString "e"), .non, .int 5, .lst [.str (Str.ofString "a")], .str (Str.ofString "aA"), .str (Str.ofString " "), .dct false [], .tup [.str (Str.ofString "a"), .lst []]]
theorem N3_ok {n : Nat} (hn : n ≤ 200) : ∀ d ∈ N3 n, okT d ∧ nodB n d = false ∧ ∃ s, O.repr [d] = some (.t (.str s)) := by
  intro d hd
  simp only [N3, List.mem_cons, List.not_mem_nil, or_false] at hd
  rcases hd with rfl | rfl | rfl | rfl | rfl | rfl | rfl | rfl | rfl | rfl
  · exact ⟨⟨.int, rfl⟩, rfl, shs12 ⟨rfl, by decide +kernel, by decide +kernel, by decide +kernel, by decide +kernel⟩⟩
  · exact ⟨⟨.int, rfl⟩, by simp [nodB], ⟨_, (Shn.int (w := 12) (by omega) (by omega) (by omega)).repr (by omega) (by omega)⟩⟩
  · exact ⟨⟨.bl, rfl⟩, rfl, shs12 ⟨rfl, by decide +kernel, by decide +kernel, by decide +kernel, by decide +kernel⟩⟩
  · exact ⟨⟨.non, rfl⟩, rfl, shs12 ⟨rfl, by decide +kernel, by decide +kernel, by decide +kernel, by decide +kernel⟩⟩
  · exact ⟨⟨.str, rfl⟩, rfl, shs12 ⟨rfl, by decide +kernel, by decide +kernel, by decide +kernel, by decide +kernel⟩⟩
  · exact ⟨⟨.tup, rfl⟩, rfl, shs12 ⟨rfl, by decide +kernel, by decide +kernel, by decide +kernel, by decide +kernel⟩⟩
  · exact ⟨⟨.lst, rfl⟩, rfl, shs12 ⟨rfl, by decide +kernel, by decide +kernel, by decide +kernel, by decide +kernel⟩⟩
  · exact ⟨⟨.int, rfl⟩, by simp [nodB]; omega, shs12 ⟨rfl, by decide +kernel, by decide +kernel, by decide +kernel, by decide +kernel⟩⟩
  · exact ⟨⟨.dct, rfl⟩, rfl, shs12 ⟨rfl, by decide +kernel, by decide +kernel, by decide +kernel, by decide +kernel⟩⟩
  · exact ⟨⟨.tup, rfl⟩, rfl, shs12 ⟨rfl, by decide +kernel, by decide +kernel, by decide +kernel, by decide +kernel⟩⟩
theorem N2_ok : ∀ d ∈ N2, noStep d ∧ ∃ s, O.repr [d] = some (.t (.str s)) := by
  intro d hd
  simp only [N2, List.mem_cons, List.not_mem_nil, or_false] at hd
  rcases hd with rfl | rfl | rfl | rfl | rfl | rfl | rfl | rfl | rfl | rfl
  · exact ⟨.inr ⟨_, rfl, by decide +kernel, .inl (by decide +kernel)⟩, shs12 ⟨rfl, by decide +kernel, by decide +kernel, by decide +kernel, by decide +kernel⟩⟩
  · exact ⟨.inr ⟨_, rfl, by decide +kernel, .inl (by decide +kernel)⟩, shs12 ⟨rfl, by decide +kernel, by decide +kernel, by decide +kernel, by decide +kernel⟩⟩
  · exact ⟨.inr ⟨_, rfl, by decide +kernel, .inr (by rfl)⟩, shs12 ⟨rfl, by decide +kernel, by decide +kernel, by decide +kernel, by decide +kernel⟩⟩
  · exact ⟨.inl ⟨.non, rfl, by decide⟩, shs12 ⟨rfl, by decide +kernel, by decide +kernel, by decide +kernel, by decide +kernel⟩⟩
  · exact ⟨.inl ⟨.int, rfl, by decide⟩, shs12 ⟨rfl, by decide +kernel, by decide +kernel, by decide +kernel, by decide +kernel⟩⟩
  · exact ⟨.inl ⟨.lst, rfl, by decide⟩, shs12 ⟨rfl, by decide +kernel, by decide +kernel, by decide +kernel, by decide +kernel⟩⟩
  · exact ⟨.inr ⟨_, rfl, by decide +kernel, .inl (by decide +kernel)⟩, shs12 ⟨rfl, by decide +kernel, by decide +kernel, by decide +kernel, by decide +kernel⟩⟩
  · exact ⟨.inr ⟨_, rfl, by decide +kernel, .inr (by rfl)⟩, shs12 ⟨rfl, by decide +kernel, by decide +kernel, by decide +kernel, by decide +kernel⟩⟩
  · exact ⟨.inl ⟨.dct, rfl, by decide⟩, shs12 ⟨rfl, by decide +kernel, by decide +kernel, by decide +kernel, by decide +kernel⟩⟩
  · exact ⟨.inl ⟨.tup, rfl, by decide⟩, shs12 ⟨rfl, by decide +kernel, by decide +kernel, by decide +kernel, by decide +kernel⟩⟩
theorem three_ne (a b : Str) (c : Bool) : O.ne (.lst [.str a, .str b, .bl c]) (.lst [.str a, .str b, .bl c]) = some (.t (.bl false)) := ne_self (k := 1) (Eqs.lst (k := 0) fun x hx => by simp only [List.mem_cons, List.not_mem_nil, or_false] at hx; rcases hx with rfl | rfl | rfl; exact Eqs.str _ _; exact Eqs.str _ _; exact Eqs.bl _ _) (by decide)
theorem errs_ok {n : Nat} (h1 : 1 ≤ n) (hn : n ≤ 200) (tg : Tg) : m_law_errors [gD n tg, .int n] = .ok (.t (.bl true)) [] := by
  obtain ⟨ρ', e1, ⟨y2, y3, rfl⟩⟩ := forR_inv (B := S.foB bl_law_errors_2 (G.name 2)) (N3 n) (fun _ ρ => ∃ y2 y3, ρ = [.tr (gD n tg), .tr (.int n), y2, y3]) 0 _ ⟨.un, .un, rfl⟩ (by
    rintro i d ρ hd ⟨y2, y3, rfl⟩
    obtain ⟨h, h2, s, sr⟩ := N3_ok hn d (List.mem_of_getElem? hd)
    have e := fun p => act_n (n := n) (tg := tg) h h2 p sr
    have n1 := three_ne (Str.ofString "node") s true
    simp only [gD] at e ⊢
    exact ⟨[_, _, .tr d, .tr .non], by simp [bl_law_errors_2, bl_law_errors_1, e, n1, sr, -q_O_repr_1], _, _, rfl⟩)
  obtain ⟨ρ', e2, ⟨z2, z3, rfl⟩⟩ := forR_inv (B := S.foB bl_law_errors_3 (G.name 2)) N2 (fun _ ρ => ∃ z2 z3, ρ = [.tr (gD n tg), .tr (.int n), z2, z3]) 0 _ ⟨y2, y3, rfl⟩ (by
    rintro i d ρ hd ⟨y2, y3, rfl⟩
    obtain ⟨h, s, sr⟩ := N2_ok d (List.mem_of_getElem? hd)
    have e := act_s (n := n) (tg := tg) (u := n - 1) (by omega) h sr
    have c : ((n - 1 : Nat) : Int) = (n : Int) - 1 := by omega
    rw [c] at e
    have n1 := three_ne (Str.ofString "step") s true
    simp only [gD] at e ⊢
    exact ⟨[_, _, .tr d, y3], by simp [bl_law_errors_3, e, n1, sr, -q_O_repr_1], _, _, rfl⟩)
  simp only [N3, N2] at e1 e2
  simp [m_law_errors, b_law_errors, e1, e2, -forR]
theorem turn_ok (ns : List Int) (h : ns.length ≤ 63) (k : Nat) (hk : k ≤ 99) (x1 x2 x3 x4 x5 x6 : Dx.Slot) :
    ∃ y2 y3 y4 y5 y6, S.foB bl_law_1 (G.name 1) (.int k) [.tr (.scr (ns.map D.int)), x1, x2, x3, x4, x5, x6] = .ok .nx [.tr (.scr (ns.map D.int)), .tr (.int k), y2, y3, y4, y5, y6] := by
  obtain ⟨ds, P, e1⟩ := pool_ok ns h k (by omega)
  obtain ⟨m, ds1, hm, P1, e2⟩ := draw_ok P 6 (by omega) (by omega)
  have e2' : m_law_draw ds [.int 6] = .ok (.t (.int m)) ds1 := e2
  obtain ⟨es, ds2, hE, lE, P2, e3⟩ := law_edges_ok P1 (n := 1 + m) (by omega)
  have sz : (1 : Int) + m = ((1 + m : Nat) : Int) := by omega
  have e4 := init_ok hE (by omega) (by omega) (by omega) false
  have e5 := law_targets_ok hE (by omega)
  have e6 := agrees_ok (n := 1 + m) (by omega) hE
  have e7 := errs_ok (n := 1 + m) (by omega) (by omega) (tgOf es)
  generalize hn : 1 + m = n at *
  refine ⟨.ol false ds2, .tr (.int n), .tr (.lst (es.map edD)), .tr (gD n (tgOf es)), .tr (.dct true (tgD (tgOf es))), ?_⟩
  simp only [gD] at e6 e7 ⊢
  generalize tgD (tgOf es) = td at *
  simp [bl_law_1, e1, e2', sz, e3, e4, e5, e6, e7, -forR, -q_O_repr_1, -Int.natCast_add]
theorem law_true (ns : List Int) (h : ns.length ≤ 63) : m_law [.scr (ns.map D.int)] = .ok (.t (.bl true)) [] := by
  obtain ⟨ρ', e, ⟨x1, x2, x3, x4, x5, x6, rfl⟩⟩ := forR_inv (B := S.foB bl_law_1 (G.name 1)) (I.upD 0 (Max.max 1 (Min.min 12 ns.length)))
    (fun _ ρ => ∃ x1 x2 x3 x4 x5 x6, ρ = [.tr (.scr (ns.map D.int)), x1, x2, x3, x4, x5, x6]) 0 _ ⟨.un, .un, .un, .un, .un, .un, rfl⟩ (by
      rintro q t ρ ht ⟨x1, x2, x3, x4, x5, x6, rfl⟩
      obtain ⟨hq, rfl⟩ := upD_at ht
      obtain ⟨y2, y3, y4, y5, y6, e⟩ := turn_ok ns h q (by omega) x1 x2 x3 x4 x5 x6
      rw [Int.zero_add]
      exact ⟨_, e, _, _, _, _, _, _, rfl⟩)
  simp [m_law, b_law, e, show (-4611686018427387904 : Int) ≤ Max.max 1 (Min.min 12 (ns.length : Int)) by omega, show Max.max 1 (Min.min 12 (ns.length : Int)) < (4611686018427387904 : Int) by omega, show (Max.max 1 (Min.min 12 (ns.length : Int))).toNat = Max.max 1 (Min.min 12 ns.length) by omega, -forR]
def topS (i : Nat) : Stmt := PySem.Challenge.pw_walkshome_k12_steps_lead_there_and_back.main.body.getD i (.Pass ⟨0, 0, 0, 0⟩)
abbrev s_law_pool : Stmt := topS 14
abbrev s_law_draw : Stmt := topS 15
abbrev s_law_edges : Stmt := topS 17
abbrev s_is_integer : Stmt := topS 8
abbrev s_InvalidNumber___init__ : Stmt := inClass (topS 3) 0
abbrev s_InvalidGraph___init__ : Stmt := inClass (topS 4) 0
abbrev s_Graph_has_node : Stmt := inClass (topS 12) 1
abbrev s_Graph_accepts : Stmt := inClass (topS 12) 2
abbrev s_Graph___init__ : Stmt := inClass (topS 12) 0
abbrev s_law_back : Stmt := topS 16
abbrev s_law_targets : Stmt := topS 18
abbrev s_InvalidNode___init__ : Stmt := inClass (topS 5) 0
abbrev s_InvalidPath___init__ : Stmt := inClass (topS 2) 0
abbrev s_Graph_follow : Stmt := inClass (topS 12) 5
abbrev s_Graph_target : Stmt := inClass (topS 12) 6
abbrev s_Graph_missing : Stmt := inClass (topS 12) 7
abbrev s_Graph_is_complete : Stmt := inClass (topS 12) 8
abbrev s_law_agrees : Stmt := topS 21
abbrev s_law_actual : Stmt := topS 19
abbrev s_law_errors : Stmt := topS 20
abbrev s_law : Stmt := topS 22
structure Ad where
  a_law_pool : Addr
  d_law_pool : FuncData
  a_law_draw : Addr
  d_law_draw : FuncData
  a_law_edges : Addr
  d_law_edges : FuncData
  a_is_integer : Addr
  d_is_integer : FuncData
  a_InvalidNumber___init__ : Addr
  d_InvalidNumber___init__ : FuncData
  a_InvalidGraph___init__ : Addr
  d_InvalidGraph___init__ : FuncData
  a_Graph_has_node : Addr
  d_Graph_has_node : FuncData
  a_Graph_accepts : Addr
  d_Graph_accepts : FuncData
  a_Graph___init__ : Addr
  d_Graph___init__ : FuncData
  a_law_back : Addr
  d_law_back : FuncData
  a_law_targets : Addr
  d_law_targets : FuncData
  a_InvalidNode___init__ : Addr
  d_InvalidNode___init__ : FuncData
  a_InvalidPath___init__ : Addr
  d_InvalidPath___init__ : FuncData
  a_Graph_follow : Addr
  d_Graph_follow : FuncData
  a_Graph_target : Addr
  d_Graph_target : FuncData
  a_Graph_missing : Addr
  d_Graph_missing : FuncData
  a_Graph_is_complete : Addr
  d_Graph_is_complete : FuncData
  a_law_agrees : Addr
  d_law_agrees : FuncData
  a_law_actual : Addr
  d_law_actual : FuncData
  a_law_errors : Addr
  d_law_errors : FuncData
  a_law : Addr
  d_law : FuncData
  k_Graph : Addr
  k_InvalidGraph : Addr
  k_InvalidNode : Addr
  k_InvalidNumber : Addr
  k_InvalidPath : Addr
  k_PathError : Addr
structure Txt (K : PySem.W.Frag) (mg : Str → Option Value) (A : Ad) : Prop where
  f_law_pool : Fun K "_law_pool" "_law_pool" s_law_pool A.a_law_pool A.d_law_pool
  g_law_pool : mg "_law_pool" = some (.ref A.a_law_pool)
  b_law_pool : Binds K A.d_law_pool ["_law_script", "_law_index"] []
  f_law_draw : Fun K "_law_draw" "_law_draw" s_law_draw A.a_law_draw A.d_law_draw
  g_law_draw : mg "_law_draw" = some (.ref A.a_law_draw)
  b_law_draw : Binds K A.d_law_draw ["_law_pool_here", "_law_bound"] []
  f_law_edges : Fun K "_law_edges" "_law_edges" s_law_edges A.a_law_edges A.d_law_edges
  g_law_edges : mg "_law_edges" = some (.ref A.a_law_edges)
  b_law_edges : Binds K A.d_law_edges ["_law_pool_here", "_law_size"] []
  f_is_integer : Fun K "is_integer" "is_integer" s_is_integer A.a_is_integer A.d_is_integer
  g_is_integer : mg "is_integer" = some (.ref A.a_is_integer)
  b_is_integer : Binds K A.d_is_integer ["value"] []
  f_InvalidNumber___init__ : Fun K "__init__" "InvalidNumber.__init__" s_InvalidNumber___init__ A.a_InvalidNumber___init__ A.d_InvalidNumber___init__
  b_InvalidNumber___init__ : Binds K A.d_InvalidNumber___init__ ["self", "value"] []
  f_InvalidGraph___init__ : Fun K "__init__" "InvalidGraph.__init__" s_InvalidGraph___init__ A.a_InvalidGraph___init__ A.d_InvalidGraph___init__
  b_InvalidGraph___init__ : Binds K A.d_InvalidGraph___init__ ["self", "index"] []
  f_Graph_has_node : Fun K "has_node" "Graph.has_node" s_Graph_has_node A.a_Graph_has_node A.d_Graph_has_node
  b_Graph_has_node : Binds K A.d_Graph_has_node ["self", "value"] []
  f_Graph_accepts : Fun K "accepts" "Graph.accepts" s_Graph_accepts A.a_Graph_accepts A.d_Graph_accepts
  b_Graph_accepts : Binds K A.d_Graph_accepts ["self", "edge"] []
  f_Graph___init__ : FunV K "__init__" "Graph.__init__" s_Graph___init__ A.a_Graph___init__ A.d_Graph___init__
  f_law_back : Fun K "_law_back" "_law_back" s_law_back A.a_law_back A.d_law_back
  g_law_back : mg "_law_back" = some (.ref A.a_law_back)
  b_law_back : Binds K A.d_law_back ["_law_step"] []
  f_law_targets : Fun K "_law_targets" "_law_targets" s_law_targets A.a_law_targets A.d_law_targets
  g_law_targets : mg "_law_targets" = some (.ref A.a_law_targets)
  b_law_targets : Binds K A.d_law_targets ["_law_edges_here"] []
  f_InvalidNode___init__ : Fun K "__init__" "InvalidNode.__init__" s_InvalidNode___init__ A.a_InvalidNode___init__ A.d_InvalidNode___init__
  b_InvalidNode___init__ : Binds K A.d_InvalidNode___init__ ["self", "value"] []
  f_InvalidPath___init__ : Fun K "__init__" "InvalidPath.__init__" s_InvalidPath___init__ A.a_InvalidPath___init__ A.d_InvalidPath___init__
  b_InvalidPath___init__ : Binds K A.d_InvalidPath___init__ ["self", "value"] []
  f_Graph_follow : Fun K "follow" "Graph.follow" s_Graph_follow A.a_Graph_follow A.d_Graph_follow
  b_Graph_follow : Binds K A.d_Graph_follow ["self", "node", "step"] []
  f_Graph_target : Fun K "target" "Graph.target" s_Graph_target A.a_Graph_target A.d_Graph_target
  b_Graph_target : Binds K A.d_Graph_target ["self", "node", "step"] []
  f_Graph_missing : Fun K "missing" "Graph.missing" s_Graph_missing A.a_Graph_missing A.d_Graph_missing
  b_Graph_missing : Binds K A.d_Graph_missing ["self"] []
  f_Graph_is_complete : Fun K "is_complete" "Graph.is_complete" s_Graph_is_complete A.a_Graph_is_complete A.d_Graph_is_complete
  b_Graph_is_complete : Binds K A.d_Graph_is_complete ["self"] []
  f_law_agrees : Fun K "_law_agrees" "_law_agrees" s_law_agrees A.a_law_agrees A.d_law_agrees
  g_law_agrees : mg "_law_agrees" = some (.ref A.a_law_agrees)
  b_law_agrees : Binds K A.d_law_agrees ["_law_graph", "_law_targets_here", "_law_size"] []
  f_law_actual : Fun K "_law_actual" "_law_actual" s_law_actual A.a_law_actual A.d_law_actual
  g_law_actual : mg "_law_actual" = some (.ref A.a_law_actual)
  b_law_actual : Binds K A.d_law_actual ["_law_graph", "_law_node", "_law_step"] []
  f_law_errors : Fun K "_law_errors" "_law_errors" s_law_errors A.a_law_errors A.d_law_errors
  g_law_errors : mg "_law_errors" = some (.ref A.a_law_errors)
  b_law_errors : Binds K A.d_law_errors ["_law_graph", "_law_size"] []
  f_law : Fun K "law" "law" s_law A.a_law A.d_law
  g_law : mg "law" = some (.ref A.a_law)
  b_law : Binds K A.d_law ["_law_script"] []
  kb_Graph___init___2_ : KBi K A.d_Graph___init__ ["self", "size", "edges"] [] kg_Graph___init___2_
  kb_Graph_accepts_2_ : ∃ g, KBinds K A.d_Graph_accepts ["self", "edge"] [] g kg_Graph_accepts_2_
  kb_Graph_follow_3_ : ∃ g, KBinds K A.d_Graph_follow ["self", "node", "step"] [] g kg_Graph_follow_3_
  kb_Graph_has_node_2_ : ∃ g, KBinds K A.d_Graph_has_node ["self", "value"] [] g kg_Graph_has_node_2_
  kb_Graph_is_complete_1_ : ∃ g, KBinds K A.d_Graph_is_complete ["self"] [] g kg_Graph_is_complete_1_
  kb_Graph_missing_1_ : ∃ g, KBinds K A.d_Graph_missing ["self"] [] g kg_Graph_missing_1_
  kb_Graph_target_3_ : ∃ g, KBinds K A.d_Graph_target ["self", "node", "step"] [] g kg_Graph_target_3_
  c_LETTERS : ∃ t, mg "LETTERS" = some (.str "abcd" t)
  c_MAX_NODES : ∃ t, mg "MAX_NODES" = some (.int 2000 t)
  c_STEPS : ∃ t, mg "STEPS" = some (.str "aAbBcCdD" t)
  z_IndexError : mg "IndexError" = none
  z_ValueError : mg "ValueError" = none
  z_bool : mg "bool" = none
  z_enumerate : mg "enumerate" = none
  z_int : mg "int" = none
  z_isinstance : mg "isinstance" = none
  z_len : mg "len" = none
  z_list : mg "list" = none
  z_max : mg "max" = none
  z_min : mg "min" = none
  z_range : mg "range" = none
  z_repr : mg "repr" = none
  z_str : mg "str" = none
  z_tuple : mg "tuple" = none
  g_Graph : mg "Graph" = some (.ref A.k_Graph)
  g_InvalidGraph : mg "InvalidGraph" = some (.ref A.k_InvalidGraph)
  g_InvalidNode : mg "InvalidNode" = some (.ref A.k_InvalidNode)
  g_InvalidNumber : mg "InvalidNumber" = some (.ref A.k_InvalidNumber)
  g_InvalidPath : mg "InvalidPath" = some (.ref A.k_InvalidPath)
  g_PathError : mg "PathError" = some (.ref A.k_PathError)
  x_InvalidGraph : Xc K ebV A.k_InvalidGraph
  x_InvalidNode : Xc K ebI A.k_InvalidNode
  x_InvalidNumber : Xc K ebV A.k_InvalidNumber
  x_InvalidPath : Xc K ebV A.k_InvalidPath
  i_InvalidGraph : PySem.W.findIn K (.ref A.k_InvalidGraph) "__init__" = some (some (.ref A.a_InvalidGraph___init__))
  t_InvalidGraph : PySem.W.typeIn K (.ref A.a_InvalidGraph___init__) = some (.type "function")
  i_InvalidNode : PySem.W.findIn K (.ref A.k_InvalidNode) "__init__" = some (some (.ref A.a_InvalidNode___init__))
  t_InvalidNode : PySem.W.typeIn K (.ref A.a_InvalidNode___init__) = some (.type "function")
  i_InvalidNumber : PySem.W.findIn K (.ref A.k_InvalidNumber) "__init__" = some (some (.ref A.a_InvalidNumber___init__))
  t_InvalidNumber : PySem.W.typeIn K (.ref A.a_InvalidNumber___init__) = some (.type "function")
  i_InvalidPath : PySem.W.findIn K (.ref A.k_InvalidPath) "__init__" = some (some (.ref A.a_InvalidPath___init__))
  t_InvalidPath : PySem.W.typeIn K (.ref A.a_InvalidPath___init__) = some (.type "function")
  n_InvalidGraph_index : PySem.W.findIn K (.ref A.k_InvalidGraph) "index" = some none
  n_InvalidNode_value : PySem.W.findIn K (.ref A.k_InvalidNode) "value" = some none
  n_InvalidNumber_value : PySem.W.findIn K (.ref A.k_InvalidNumber) "value" = some none
  n_InvalidPath_value : PySem.W.findIn K (.ref A.k_InvalidPath) "value" = some none
  v_IndexError : PySem.W.findCls K (.type "IndexError") (.type "type") "__init__" = some (.val (.builtin "IndexError.__init__"))
  s_PathError : PySem.W.specialIn K (.ref A.k_PathError) "__getattribute__" = some (some (.builtin "type.__getattribute__"))
  r_PathError : PySem.W.readsIn K A.k_PathError (.type "type") = true
  v_PathError : PySem.W.findCls K (.ref A.k_PathError) (.type "type") "__init__" = some (.val (.builtin "ValueError.__init__"))
  ko_InvalidNode_IndexError : PySem.W.kitOne K (.ref A.k_InvalidNode) (.type "IndexError") = some true
  ko_InvalidNode_PathError : PySem.W.kitOne K (.ref A.k_InvalidNode) (.ref A.k_PathError) = some false
  ko_InvalidPath_PathError : PySem.W.kitOne K (.ref A.k_InvalidPath) (.ref A.k_PathError) = some true
  ko_InvalidPath_ValueError : PySem.W.kitOne K (.ref A.k_InvalidPath) (.type "ValueError") = some true
  cl_Graph : Cls K A.k_Graph
  me_Graph_accepts : Meth K A.k_Graph "accepts" A.a_Graph_accepts
  me_Graph_follow : Meth K A.k_Graph "follow" A.a_Graph_follow
  me_Graph_has_node : Meth K A.k_Graph "has_node" A.a_Graph_has_node
  me_Graph_is_complete : Meth K A.k_Graph "is_complete" A.a_Graph_is_complete
  me_Graph_missing : Meth K A.k_Graph "missing" A.a_Graph_missing
  me_Graph_target : Meth K A.k_Graph "target" A.a_Graph_target
  mk_Graph : Mk K A.k_Graph A.a_Graph___init__
  na_Graph_node_count : PySem.W.findIn K (.ref A.k_Graph) "node_count" = some none
  na_Graph_targets : PySem.W.findIn K (.ref A.k_Graph) "targets" = some none
  m_InvalidNode_InvalidNode : PySem.W.exmOne K (.ref A.k_InvalidNode) (.ref A.k_InvalidNode) = some true
  m_InvalidNode_InvalidPath : PySem.W.exmOne K (.ref A.k_InvalidNode) (.ref A.k_InvalidPath) = some false
  m_InvalidPath_InvalidNode : PySem.W.exmOne K (.ref A.k_InvalidPath) (.ref A.k_InvalidNode) = some false
  m_InvalidPath_InvalidPath : PySem.W.exmOne K (.ref A.k_InvalidPath) (.ref A.k_InvalidPath) = some true
section
variable {P : Program} {w : World} {K : PySem.W.Frag} {mg : Str → Option Value} {base : Heap} {A : Ad}
theorem sc_law_pool : FnScope ["_law_script", "_law_index", "_law_cell", "_law_number", "_law_seed"] ["_law_script", "_law_index"] (defScope s_law_pool) := ⟨rfl, rfl, rfl, by decide +kernel, rfl, by decide +kernel, by decide +kernel⟩
def nm_law_pool : List Str := ["_law_script", "_law_index", "_law_cell", "_law_number", "_law_seed"]
theorem ok_law_pool (T : Txt K mg A) : FnG P w K mg base (L2.CX P w) 1 A.a_law_pool A.d_law_pool ["_law_script", "_law_index"] (spP K mg 2 m_law_pool) := by
  refine fnX T.f_law_pool sc_law_pool (fun vs H Q E h => h.1) (fun cdv A_ outer s H vs Q E hr h => ?_)
  refine ⟨_, pssA (wx := fun cls d _ H => E cls d H) (b := b_law_pool) (fun c => ?_), runP_go (k := 3) rfl h⟩
  exact (pd_seq (pss_cons (pd_set (ps_set (i := 2) sc_law_pool.nd rfl (by first | exact Or.inl rfl | exact Or.inr rfl) (pd_op2 d_ix (pe_ix (ix_seqK (K := K) rfl) (pd_op2 d_add (pe_op (op_addUT (K := K) rfl) (pd_sl (pe_slice (sl_UT (K := K) rfl) (pd_var (pv 0)) (pd_part (po_some (pd_var (pv 1)))) (pd_part (po_some (pd_op2 d_add (pe_op (op_addUT (K := K) rfl) (pd_var (pv 1)) (pd_cI pe_int))))))) (pd_lst (pe_lst (pd_acons (pa_cons (pd_cI pe_int) (pd_anil pa_nil))))))) (pd_cI pe_int) (fun _ _ => rfl)))))
      (pd_seq (pss_cons (pd_set (ps_set (i := 3) sc_law_pool.nd rfl (by first | exact Or.inl rfl | exact Or.inr rfl) (pd_cb d_max (pe_callB (call_maxUK (K := K) rfl rfl) (by rfl) T.z_max PyProof.Rows.boot_max (pd_acons (pa_cons (pd_var (pv 2)) (pd_acons (pa_cons (pd_op2 d_sub (pe_op op_sub (pd_op1 d_neg (pe_un un_neg (pd_cI pe_int))) (pd_var (pv 2)))) (pd_anil pa_nil)))))))))
      (pd_seq (pss_cons (pd_set (ps_set (i := 4) sc_law_pool.nd rfl (by first | exact Or.inl rfl | exact Or.inr rfl) (pd_op2 d_mod (pe_op op_mod (pd_op2 d_mul (pe_op op_mulU (pd_op2 d_add (pe_op (op_addUT (K := K) rfl) (pd_op2 d_add (pe_op (op_addUT (K := K) rfl) (pd_op2 d_add (pe_op (op_addUT (K := K) rfl) (pd_op2 d_mod (pe_op op_mod (pd_var (pv 3)) (pd_cI pe_int))) (pd_op2 d_mul (pe_op op_mulU (pd_op2 d_mul (pe_op op_mulU (pd_cI pe_int) (pd_var (pv 1)))) (pd_var (pv 1)))))) (pd_op2 d_mul (pe_op op_mulU (pd_cI pe_int) (pd_var (pv 1)))))) (pd_cI pe_int))) (pd_cI pe_int))) (pd_cI pe_int)))))
      (pss_one (pd_ret (ps_ret (pd_lst (pe_lst (pd_acons (pa_cons (pd_op2 d_mul (pe_op op_mulU (pd_var (pv 3)) (pd_cb d_int (pe_callTy call_intU (by rfl) T.z_int (by decide +kernel) (pd_acons (pa_cons (pd_op2 d_ge (pe_cmpR op_ge (pd_var (pv 3)) (pd_op2 d_pow (pe_op op_pow (pd_cI pe_int) (pd_cI pe_int))) rfl)) (pd_anil pa_nil))))))) (pd_acons (pa_cons (pd_op2 d_mod (pe_op op_mod (pd_op2 d_mul (pe_op op_mulU (pd_var (pv 4)) (pd_var (pv 4)))) (pd_cI pe_int))) (pd_anil pa_nil))))))))))))))))

theorem sc_law_draw : FnScope ["_law_pool_here", "_law_bound", "_law_digit"] ["_law_pool_here", "_law_bound"] (defScope s_law_draw) := ⟨rfl, rfl, rfl, by decide +kernel, rfl, by decide +kernel, by decide +kernel⟩
def nm_law_draw : List Str := ["_law_pool_here", "_law_bound", "_law_digit"]
theorem ok_law_draw (T : Txt K mg A) : FnG P w K mg base (L2.CX P w) 1 A.a_law_draw A.d_law_draw ["_law_pool_here", "_law_bound"] (spI K mg 1 m_law_draw) := by
  refine fnX T.f_law_draw sc_law_draw (fun vs H Q E h => h.1) (fun cdv A_ outer s H vs Q E hr h => ?_)
  refine ⟨_, pssA (wx := fun cls d _ H => E cls d H) (b := b_law_draw) (fun c => ?_), runI_go (k := 1) rfl h⟩
  exact (pd_seq (pss_cons (pd_ifs (ps_if (pd_tcmp d_gt (pt_cmpR op_gt (pd_op2 d_ix (pe_ix (ix_seqK (K := K) rfl) (pd_var (pv 0)) (pd_cI pe_int) (fun _ _ => rfl))) (pd_cI pe_int) rfl)) (pd_seq (pss_cons (pd_set (ps_set (i := 2) sc_law_draw.nd rfl (by first | exact Or.inl rfl | exact Or.inr rfl) (pd_op2 d_mod (pe_op op_mod (pd_op2 d_ix (pe_ix (ix_seqK (K := K) rfl) (pd_var (pv 0)) (pd_cI pe_int) (fun _ _ => rfl))) (pd_var (pv 1))))))
      (pd_seq (pss_cons (pd_seti (ps_asg (pd_op2 d_fdiv (pe_op op_fdiv (pd_op2 d_ix (pe_ix (ix_seqK (K := K) rfl) (pd_var (pv 0)) (pd_cI pe_int) (fun _ _ => rfl))) (pd_var (pv 1)))) (pg_sub (pv 0) (pd_cI pe_int) set_list)))
      (pss_one (pd_ret (ps_ret (pd_var (pv 2))))))))) (pd_nil pss_nil)))
      (pd_seq (pss_cons (pd_seti (ps_asg (pd_op2 d_mod (pe_op op_mod (pd_op2 d_add (pe_op (op_addUT (K := K) rfl) (pd_op2 d_mul (pe_op op_mulU (pd_op2 d_ix (pe_ix (ix_seqK (K := K) rfl) (pd_var (pv 0)) (pd_cI pe_int) (fun _ _ => rfl))) (pd_cI pe_int))) (pd_cI pe_int))) (pd_cI pe_int))) (pg_sub (pv 0) (pd_cI pe_int) set_list)))
      (pss_one (pd_ret (ps_ret (pd_op2 d_mod (pe_op op_mod (pd_op2 d_fdiv (pe_op op_fdiv (pd_op2 d_mod (pe_op op_mod (pd_op2 d_mul (pe_op op_mulU (pd_op2 d_ix (pe_ix (ix_seqK (K := K) rfl) (pd_var (pv 0)) (pd_cI pe_int) (fun _ _ => rfl))) (pd_op2 d_ix (pe_ix (ix_seqK (K := K) rfl) (pd_var (pv 0)) (pd_cI pe_int) (fun _ _ => rfl))))) (pd_cI pe_int))) (pd_cI pe_int))) (pd_var (pv 1)))))))))))

theorem sc_law_edges : FnScope ["_law_pool_here", "_law_size", "_law_density", "_law_edges_here", "_law_letter", "_law_unused", "_law_source", "_law_node"] ["_law_pool_here", "_law_size"] (defScope s_law_edges) := ⟨rfl, rfl, rfl, by decide +kernel, rfl, by decide +kernel, by decide +kernel⟩
def nm_law_edges : List Str := ["_law_pool_here", "_law_size", "_law_density", "_law_edges_here", "_law_letter", "_law_unused", "_law_source", "_law_node"]
theorem ok_law_edges (T : Txt K mg A) : FnG P w K mg base (L2.CX P w) 2 A.a_law_edges A.d_law_edges ["_law_pool_here", "_law_size"] (spI K mg 1 m_law_edges) := by
  refine fnX T.f_law_edges sc_law_edges (fun vs H Q E h => h.1) (fun cdv A_ outer s H vs Q E hr h => ?_)
  refine ⟨_, pssA (wx := fun cls d _ H => E cls d H) (b := b_law_edges) (fun c => ?_), runI_go (k := 6) rfl h⟩
  exact (pd_seq (pss_cons (pd_set (ps_set (i := 2) sc_law_edges.nd rfl (by first | exact Or.inl rfl | exact Or.inr rfl) (pd_op2 d_add (pe_op (op_addUT (K := K) rfl) (pd_cI pe_int) (pd_callI (pc_try (W := _) (ok_law_draw T) (hr.mono (by decide)) (by rfl) T.g_law_draw T.f_law_draw.kp T.b_law_draw (takes_of rfl rfl rfl rfl) (pa_cons (pv 0) (pd_acons (pa_cons (pd_cI pe_int) (pd_anil pa_nil))))))))))
      (pd_seq (pss_cons (pd_set (ps_set (i := 3) sc_law_edges.nd rfl (by first | exact Or.inl rfl | exact Or.inr rfl) (pd_lst (pe_lst (pd_anil pa_nil)))))
      (pd_seq (pss_cons (pd_fo (ps_for (passes_of rfl) rfl (pd_iof (pi_anyK (K := K) rfl (pd_cS pe_str))) (pd_gname (pg_name (i := 4) sc_law_edges.nd rfl (by first | exact Or.inl rfl | exact Or.inr rfl))) (pd_seq (pss_cons (pd_set (ps_set (i := 5) sc_law_edges.nd rfl (by first | exact Or.inl rfl | exact Or.inr rfl) (pd_lrng1 (pe_listRg (by rfl) (by rfl) T.z_list (prg_1 (by rfl) T.z_range (pd_var (pv 1)))))))
      (pss_one (pd_fo (ps_for (passes_of rfl) rfl (pd_rng1 (pi_range1 (by rfl) T.z_range (pd_acons (pa_cons (pd_var (pv 1)) (pd_anil pa_nil))))) (pd_gname (pg_name (i := 6) sc_law_edges.nd rfl (by first | exact Or.inl rfl | exact Or.inr rfl))) (pd_seq (pss_cons (pd_set (ps_set (i := 7) sc_law_edges.nd rfl (by first | exact Or.inl rfl | exact Or.inr rfl) (pd_lm lm_popAt (pe_bmK (K := K) rfl (pe_bm PySem.F.plainAttrs_list PySem.F.slot_list_pop PySem.F.type_list_pop mt_popAt (pv 5) (pd_acons (pa_cons (pd_callI (pc_try (W := _) (ok_law_draw T) (hr.mono (by decide)) (by rfl) T.g_law_draw T.f_law_draw.kp T.b_law_draw (takes_of rfl rfl rfl rfl) (pa_cons (pv 0) (pd_acons (pa_cons (pd_cb d_len (pe_callB (call_lenUK (K := K) rfl) (by rfl) T.z_len PySem.boot_len (pd_acons (pa_cons (pd_var (pv 5)) (pd_anil pa_nil))))) (pd_anil pa_nil)))))) (pd_anil pa_nil))))))))
      (pss_one (pd_ifs (ps_if (PW.pt (pd_tor (pw_or (pd_tcmp d_eq (pt_cmpR (op_eqW (K := K) rfl hr.units) (pd_var (pv 2)) (pd_cI pe_int) rfl)) (pw_or1 (pd_tcmp d_gt (pt_cmpR op_gt (pd_callI (pc_try (W := _) (ok_law_draw T) (hr.mono (by decide)) (by rfl) T.g_law_draw T.f_law_draw.kp T.b_law_draw (takes_of rfl rfl rfl rfl) (pa_cons (pv 0) (pd_acons (pa_cons (pd_var (pv 2)) (pd_anil pa_nil)))))) (pd_cI pe_int) rfl)))))) (pss_one (pd_drop (ps_expr (pd_lm lm_append (pe_bmK (K := K) rfl (pe_bm PySem.F.plainAttrs_list PySem.F.slot_list_append PySem.F.type_list_append mt_append (pv 3) (pd_acons (pa_cons (pd_tup (pe_tup (pd_acons (pa_cons (pd_var (pv 4)) (pd_acons (pa_cons (pd_var (pv 6)) (pd_acons (pa_cons (pd_var (pv 7)) (pd_anil pa_nil))))))))) (pd_anil pa_nil))))))))) (pd_nil pss_nil)))))))))))))
      (pss_one (pd_ret (ps_ret (pd_var (pv 3)))))))))))

theorem sc_is_integer : FnScope ["value"] ["value"] (defScope s_is_integer) := ⟨rfl, rfl, rfl, by decide +kernel, rfl, by decide +kernel, by decide +kernel⟩
def nm_is_integer : List Str := ["value"]
theorem ok_is_integer (T : Txt K mg A) : FnG P w K mg base (L2.CX P w) 1 A.a_is_integer A.d_is_integer ["value"] (spP K mg 1 m_is_integer) := by
  refine fnX T.f_is_integer sc_is_integer (fun vs H Q E h => h.1) (fun cdv A_ outer s H vs Q E hr h => ?_)
  refine ⟨_, pssA (wx := fun cls d _ H => E cls d H) (b := b_is_integer) (fun c => ?_), runP_go (k := 0) rfl h⟩
  exact (pss_one (pd_ret (ps_ret (pd_and (pe_andTK (K := K) rfl (pd_cb d_isa (pe_callB (call_isiYK (K := K) rfl) (by rfl) T.z_isinstance PyProof.Rows.boot_isinstance (pd_acons (pa_cons (pd_var (pv 0)) (pd_acons (pa_cons (pd_c (pe_bltn (v := .ty "int") (by rfl) T.z_int (by decide +kernel) rfl) (fun _ => .ty _)) (pd_anil pa_nil))))))) (pe_one (pd_not (pe_not (pd_cb d_isa (pe_callB (call_isiYK (K := K) rfl) (by rfl) T.z_isinstance PyProof.Rows.boot_isinstance (pd_acons (pa_cons (pd_var (pv 0)) (pd_acons (pa_cons (pd_c (pe_bltn (v := .ty "bool") (by rfl) T.z_bool (by decide +kernel) rfl) (fun _ => .ty _)) (pd_anil pa_nil)))))))))))))))

theorem sc_InvalidNumber___init__ : FnScope ["self", "value"] ["self", "value"] (defScope s_InvalidNumber___init__) := ⟨rfl, rfl, rfl, by decide +kernel, rfl, by decide +kernel, by decide +kernel⟩
def nm_InvalidNumber___init__ : List Str := ["self", "value"]
def sp_InvalidNumber___init__ (_ : PySem.W.Frag) (A : Ad) : Sp := sp_in1 A.k_InvalidNumber "value"
theorem ok_InvalidNumber___init__ (T : Txt K mg A) : FnG P w K mg base CX0 1 A.a_InvalidNumber___init__ A.d_InvalidNumber___init__ ["self", "value"] (sp_InvalidNumber___init__ K A) := by
  refine fn0 T.f_InvalidNumber___init__ sc_InvalidNumber___init__ (fun vs H Q E h => ?_) (fun cdv A_ outer s H vs Q E hr h => ?_)
  · first | (obtain ⟨_, rfl, _⟩ := h; rfl) | (obtain ⟨_, _, rfl, _⟩ := h; rfl) | (obtain ⟨_, _, _, rfl, _⟩ := h; rfl) | (obtain ⟨_, _, _, _, rfl, _⟩ := h; rfl) | (obtain ⟨_, _, _, _, _, rfl, _⟩ := h; rfl) | (obtain ⟨_, _, _, _, _, _, rfl, _⟩ := h; rfl) | (obtain ⟨rfl, _⟩ := h; rfl)
  · obtain ⟨a, v, rfl, ha, q⟩ := h
    refine ⟨_, (pss_cons (ps_expr (pe_iniC ebV_ok (by decide +kernel) (by rfl) T.g_PathError T.s_PathError T.r_PathError T.v_PathError (pa_cons (pv 0) (pa_cons pe_str pa_nil)))) (pss_one (ps_fld ebV_ok (pv 0) (pv 1)))), ?_⟩
    dsimp only [L2.cxOf, L2.Cx.nox, L2.Cx.wish, L2.start, List.map, List.length_cons, List.length_nil, Nat.reduceAdd, Nat.reduceSub, List.replicate, List.cons_append, List.nil_append, nm_InvalidNumber___init__]
    walk_at "hx go"
    refine ⟨a, A.k_InvalidNumber, [_], rfl, by decide, T.x_InvalidNumber, ha, ?_⟩
    walk_at "hx go"
    exact ⟨a, A.k_InvalidNumber, rfl, T.x_InvalidNumber, taker_of T.n_InvalidNumber_value, Or.inl ⟨ha, fun dx nd ne => q dx nd ne⟩⟩

theorem sc_InvalidGraph___init__ : FnScope ["self", "index"] ["self", "index"] (defScope s_InvalidGraph___init__) := ⟨rfl, rfl, rfl, by decide +kernel, rfl, by decide +kernel, by decide +kernel⟩
def nm_InvalidGraph___init__ : List Str := ["self", "index"]
def sp_InvalidGraph___init__ (_ : PySem.W.Frag) (A : Ad) : Sp := sp_in1 A.k_InvalidGraph "index"
theorem ok_InvalidGraph___init__ (T : Txt K mg A) : FnG P w K mg base CX0 1 A.a_InvalidGraph___init__ A.d_InvalidGraph___init__ ["self", "index"] (sp_InvalidGraph___init__ K A) := by
  refine fn0 T.f_InvalidGraph___init__ sc_InvalidGraph___init__ (fun vs H Q E h => ?_) (fun cdv A_ outer s H vs Q E hr h => ?_)
  · first | (obtain ⟨_, rfl, _⟩ := h; rfl) | (obtain ⟨_, _, rfl, _⟩ := h; rfl) | (obtain ⟨_, _, _, rfl, _⟩ := h; rfl) | (obtain ⟨_, _, _, _, rfl, _⟩ := h; rfl) | (obtain ⟨_, _, _, _, _, rfl, _⟩ := h; rfl) | (obtain ⟨_, _, _, _, _, _, rfl, _⟩ := h; rfl) | (obtain ⟨rfl, _⟩ := h; rfl)
  · obtain ⟨a, v, rfl, ha, q⟩ := h
    refine ⟨_, (pss_cons (ps_expr (pe_iniC ebV_ok (by decide +kernel) (by rfl) T.g_PathError T.s_PathError T.r_PathError T.v_PathError (pa_cons (pv 0) (pa_cons pe_str pa_nil)))) (pss_one (ps_fld ebV_ok (pv 0) (pv 1)))), ?_⟩
    dsimp only [L2.cxOf, L2.Cx.nox, L2.Cx.wish, L2.start, List.map, List.length_cons, List.length_nil, Nat.reduceAdd, Nat.reduceSub, List.replicate, List.cons_append, List.nil_append, nm_InvalidGraph___init__]
    walk_at "hx go"
    refine ⟨a, A.k_InvalidGraph, [_], rfl, by decide, T.x_InvalidGraph, ha, ?_⟩
    walk_at "hx go"
    exact ⟨a, A.k_InvalidGraph, rfl, T.x_InvalidGraph, taker_of T.n_InvalidGraph_index, Or.inl ⟨ha, fun dx nd ne => q dx nd ne⟩⟩

theorem sc_Graph_has_node : FnScope ["self", "value"] ["self", "value"] (defScope s_Graph_has_node) := ⟨rfl, rfl, rfl, by decide +kernel, rfl, by decide +kernel, by decide +kernel⟩
def nm_Graph_has_node : List Str := ["self", "value"]
theorem ok_Graph_has_node (T : Txt K mg A) : FnG P w K mg base (L2.CX P w) 2 A.a_Graph_has_node A.d_Graph_has_node ["self", "value"] (spP K mg 2 m_Graph_has_node) := by
  refine fnX T.f_Graph_has_node sc_Graph_has_node (fun vs H Q E h => h.1) (fun cdv A_ outer s H vs Q E hr h => ?_)
  refine ⟨_, pssA (wx := fun cls d _ H => E cls d H) (b := b_Graph_has_node) (fun c => ?_), runP_go (k := 0) rfl h⟩
  exact (pss_one (pd_ret (ps_ret (pd_and (pe_andTK (K := K) rfl (pd_call (pc_try (W := _) (ok_is_integer T) (hr.mono (by decide)) (by rfl) T.g_is_integer T.f_is_integer.kp T.b_is_integer (takes_of rfl rfl rfl rfl) (pd_acons (pa_cons (pd_var (pv 1)) (pd_anil pa_nil))))) (pe_one (pd_chain d_le d_lt (pe_chain op_le (op_ltUK (K := K) rfl hr.units) (pd_cI pe_int) (pd_var (pv 1)) (pd_fld T.g_Graph T.cl_Graph T.na_Graph_node_count (pe_fldK (K := K) rfl (pe_fld (pd_var (pv 0)) (by rfl))))))))))))

theorem sc_Graph_accepts : FnScope ["self", "edge", "letter", "source", "target"] ["self", "edge"] (defScope s_Graph_accepts) := ⟨rfl, rfl, rfl, by decide +kernel, rfl, by decide +kernel, by decide +kernel⟩
def nm_Graph_accepts : List Str := ["self", "edge", "letter", "source", "target"]
theorem ok_Graph_accepts (T : Txt K mg A) : FnG P w K mg base (L2.CX P w) 3 A.a_Graph_accepts A.d_Graph_accepts ["self", "edge"] (spP K mg 2 m_Graph_accepts) := by
  refine fnX T.f_Graph_accepts sc_Graph_accepts (fun vs H Q E h => h.1) (fun cdv A_ outer s H vs Q E hr h => ?_)
  refine ⟨_, pssA (wx := fun cls d _ H => E cls d H) (b := b_Graph_accepts) (fun c => ?_), runP_go (k := 3) rfl h⟩
  exact (pd_seq (pss_cons (pd_ifs (ps_if (PW.pt (pd_tor (pw_or (pd_tnot (pt_not (pd_tval (pt_val (pd_cb d_isa (pe_callB (call_isiYK (K := K) rfl) (by rfl) T.z_isinstance PyProof.Rows.boot_isinstance (pd_acons (pa_cons (pd_var (pv 1)) (pd_acons (pa_cons (pd_c (pe_bltn (v := .ty "tuple") (by rfl) T.z_tuple (by decide +kernel) rfl) (fun _ => .ty _)) (pd_anil pa_nil))))))))))) (pd_tor (pw_or (pd_tcmp d_ne (pt_cmpR (op_neW (K := K) rfl hr.units) (pd_cb d_len (pe_callB (call_lenUK (K := K) rfl) (by rfl) T.z_len PySem.boot_len (pd_acons (pa_cons (pd_var (pv 1)) (pd_anil pa_nil))))) (pd_cI pe_int) rfl)) (pw_or1 (pd_tnot (pt_not (pd_tval (pt_val (pd_cb d_isa (pe_callB (call_isiYK (K := K) rfl) (by rfl) T.z_isinstance PyProof.Rows.boot_isinstance (pd_acons (pa_cons (pd_op2 d_ix (pe_ix (ix_seqK (K := K) rfl) (pd_var (pv 1)) (pd_cI pe_int) (fun _ _ => rfl))) (pd_acons (pa_cons (pd_c (pe_bltn (v := .ty "str") (by rfl) T.z_str (by decide +kernel) rfl) (fun _ => .ty _)) (pd_anil pa_nil))))))))))))))))) (pss_one (pd_ret (ps_ret (pd_cB pe_bl)))) (pd_nil pss_nil)))
      (pd_seq (pss_cons (pd_asg (ps_asg (pd_var (pv 1)) (pd_gtup (pg_tupK (K := K) (n := 3) rfl rfl (pd_gcons (pgs_cons (pd_gname (pg_name (i := 2) sc_Graph_accepts.nd rfl (by first | exact Or.inl rfl | exact Or.inr rfl))) (pd_gcons (pgs_cons (pd_gname (pg_name (i := 3) sc_Graph_accepts.nd rfl (by first | exact Or.inl rfl | exact Or.inr rfl))) (pd_gcons (pgs_cons (pd_gname (pg_name (i := 4) sc_Graph_accepts.nd rfl (by first | exact Or.inl rfl | exact Or.inr rfl))) (pd_gnil pgs_nil)))))))))))
      (pd_seq (pss_cons (pd_ifs (ps_if (PW.pt (pd_tor (pw_or (pd_tcmp d_ne (pt_cmpR (op_neW (K := K) rfl hr.units) (pd_cb d_len (pe_callB (call_lenUK (K := K) rfl) (by rfl) T.z_len PySem.boot_len (pd_acons (pa_cons (pd_var (pv 2)) (pd_anil pa_nil))))) (pd_cI pe_int) rfl)) (pd_tor (pw_or (pd_tcmp d_nin (pt_cmpR (op_ninU (K := K) rfl) (pd_var (pv 2)) (pd_cS (pe_gS T.c_LETTERS)) rfl)) (pd_tor (pw_or (pd_tnot (pt_not (pd_tval (pt_val (pd_methDn T.g_Graph kg_Graph_has_node_2__gw (pm_a (W := _) (pd_var (pv 0)) T.cl_Graph T.me_Graph_has_node (ok_Graph_has_node T) (hr.mono (by decide)) T.kb_Graph_has_node_2_ (takes_of rfl rfl rfl rfl) (pd_acons (pa_cons (pd_var (pv 3)) (pd_anil pa_nil))))))))) (pw_or1 (pd_tnot (pt_not (pd_tval (pt_val (pd_methDn T.g_Graph kg_Graph_has_node_2__gw (pm_a (W := _) (pd_var (pv 0)) T.cl_Graph T.me_Graph_has_node (ok_Graph_has_node T) (hr.mono (by decide)) T.kb_Graph_has_node_2_ (takes_of rfl rfl rfl rfl) (pd_acons (pa_cons (pd_var (pv 4)) (pd_anil pa_nil))))))))))))))))) (pss_one (pd_ret (ps_ret (pd_cB pe_bl)))) (pd_nil pss_nil)))
      (pss_one (pd_ret (ps_ret (pd_and (pe_andTK (K := K) rfl (pd_op2 d_dni (pe_cmpR (op_dni hr.units) (pd_tup (pe_tup (pd_acons (pa_cons (pd_var (pv 3)) (pd_acons (pa_cons (pd_var (pv 2)) (pd_anil pa_nil))))))) (pd_fld T.g_Graph T.cl_Graph T.na_Graph_targets (pe_fldK (K := K) rfl (pe_fld (pd_var (pv 0)) (by rfl)))) rfl)) (pe_one (pd_op2 d_dni (pe_cmpR (op_dni hr.units) (pd_tup (pe_tup (pd_acons (pa_cons (pd_var (pv 4)) (pd_acons (pa_cons (pd_m0 d_upper (pe_m0 PySem.F.slot_str_upper PySem.F.type_str_upper mt_upper (pd_var (pv 2)))) (pd_anil pa_nil))))))) (pd_fld T.g_Graph T.cl_Graph T.na_Graph_targets (pe_fldK (K := K) rfl (pe_fld (pd_var (pv 0)) (by rfl)))) rfl))))))))))))))

theorem sc_Graph___init__ : FnScope ["self", "size", "edges", "index", "edge", "letter", "source", "target"] ["self", "size", "edges"] (defScope s_Graph___init__) := ⟨rfl, rfl, rfl, by decide +kernel, rfl, by decide +kernel, by decide +kernel⟩
def nm_Graph___init__ : List Str := ["self", "size", "edges", "index", "edge", "letter", "source", "target"]
theorem ok_Graph___init__ (T : Txt K mg A) : FnG P w K mg base (L2.CX P w) 4 A.a_Graph___init__ A.d_Graph___init__ ["self", "size", "edges"] (spO K mg [.io, .d, .d] m_Graph___init__) := by
  refine fnXV T.f_Graph___init__ sc_Graph___init__ (fun vs H Q E h => h.1) (fun cdv A_ outer s H vs Q E hr h => ?_)
  refine ⟨_, pssA (wx := fun cls d _ H => E cls d H) (b := b_Graph___init__) (fun c => ?_), runO_go (k := 5) rfl h⟩
  exact (pd_seq (pss_cons (pd_ifs (ps_if (PW.pt (pd_tor (pw_or (pd_tnot (pt_not (pd_tval (pt_val (pd_call (pc_try (W := _) (ok_is_integer T) (hr.mono (by decide)) (by rfl) T.g_is_integer T.f_is_integer.kp T.b_is_integer (takes_of rfl rfl rfl rfl) (pd_acons (pa_cons (pd_var (pv 1)) (pd_anil pa_nil))))))))) (pw_or1 (pd_tnot (pt_not (pd_tchain d_le d_le (pt_chain op_le op_le (pd_cI pe_int) (pd_var (pv 1)) (pd_cI (pe_gI T.c_MAX_NODES)))))))))) (pss_one (pd_raise1 T.g_InvalidNumber (ps_raise rfl (takes_of rfl rfl rfl rfl) (pmk_x ebV_ok T.x_InvalidNumber T.i_InvalidNumber T.t_InvalidNumber (ok_InvalidNumber___init__ T) (hr.mono (by decide)) T.b_InvalidNumber___init__ pass0 (by rfl) T.g_InvalidNumber (pd_acons (pa_cons (pd_var (pv 1)) (pd_anil pa_nil))))))) (pd_nil pss_nil)))
      (pd_seq (pss_cons (pd_ifs (ps_if (pd_tnot (pt_not (pd_tval (pt_val (pd_cb d_isa (pe_callB (call_isiYK (K := K) rfl) (by rfl) T.z_isinstance PyProof.Rows.boot_isinstance (pd_acons (pa_cons (pd_var (pv 2)) (pd_acons (pa_cons (pd_tup (pe_tup (pd_acons (pa_cons (pd_c (pe_bltn (v := .ty "list") (by rfl) T.z_list (by decide +kernel) rfl) (fun _ => .ty _)) (pd_acons (pa_cons (pd_c (pe_bltn (v := .ty "tuple") (by rfl) T.z_tuple (by decide +kernel) rfl) (fun _ => .ty _)) (pd_anil pa_nil))))))) (pd_anil pa_nil))))))))))) (pss_one (pd_raise1 T.g_InvalidGraph (ps_raise rfl (takes_of rfl rfl rfl rfl) (pmk_x ebV_ok T.x_InvalidGraph T.i_InvalidGraph T.t_InvalidGraph (ok_InvalidGraph___init__ T) (hr.mono (by decide)) T.b_InvalidGraph___init__ pass0 (by rfl) T.g_InvalidGraph (pd_acons (pa_cons (pd_cN pe_non) (pd_anil pa_nil))))))) (pd_nil pss_nil)))
      (pd_seq (pss_cons (pd_attr T.g_Graph T.cl_Graph T.na_Graph_node_count (ps_fld (pv 0) (pd_var (pv 1)) (by rfl)))
      (pd_seq (pss_cons (pd_attr T.g_Graph T.cl_Graph T.na_Graph_targets (ps_fld (pv 0) (pd_dnewT pe_dnewT) (by rfl)))
      (pss_one (pd_fo (ps_for (passes_of rfl) rfl (pd_enum (pi_enA (K := K) rfl (by rfl) T.z_enumerate (pd_acons (pa_cons (pd_var (pv 2)) (pd_anil pa_nil))))) (pd_gtup (pg_tupK (K := K) (n := 2) rfl rfl (pd_gcons (pgs_cons (pd_gname (pg_name (i := 3) sc_Graph___init__.nd rfl (by first | exact Or.inl rfl | exact Or.inr rfl))) (pd_gcons (pgs_cons (pd_gname (pg_name (i := 4) sc_Graph___init__.nd rfl (by first | exact Or.inl rfl | exact Or.inr rfl))) (pd_gnil pgs_nil))))))) (pd_seq (pss_cons (pd_ifs (ps_if (pd_tnot (pt_not (pd_tval (pt_val (pd_tmp (peA fun c => (pd_methDn T.g_Graph kg_Graph_accepts_2__gw (pm_a (W := _) (pd_var (pv 0)) T.cl_Graph T.me_Graph_accepts (ok_Graph_accepts T) (hr.mono (by decide)) T.kb_Graph_accepts_2_ takesF (pd_acons (pa_cons (pd_var (pv 4)) (pd_anil pa_nil))))))))))) (pss_one (pd_raise1 T.g_InvalidGraph (ps_raise rfl (takes_of rfl rfl rfl rfl) (pmk_x ebV_ok T.x_InvalidGraph T.i_InvalidGraph T.t_InvalidGraph (ok_InvalidGraph___init__ T) (hr.mono (by decide)) T.b_InvalidGraph___init__ pass0 (by rfl) T.g_InvalidGraph (pd_acons (pa_cons (pd_var (pv 3)) (pd_anil pa_nil))))))) (pd_nil pss_nil)))
      (pd_seq (pss_cons (pd_asg (ps_asg (pd_var (pv 4)) (pd_gtup (pg_tupK (K := K) (n := 3) rfl rfl (pd_gcons (pgs_cons (pd_gname (pg_name (i := 5) sc_Graph___init__.nd rfl (by first | exact Or.inl rfl | exact Or.inr rfl))) (pd_gcons (pgs_cons (pd_gname (pg_name (i := 6) sc_Graph___init__.nd rfl (by first | exact Or.inl rfl | exact Or.inr rfl))) (pd_gcons (pgs_cons (pd_gname (pg_name (i := 7) sc_Graph___init__.nd rfl (by first | exact Or.inl rfl | exact Or.inr rfl))) (pd_gnil pgs_nil)))))))))))
      (pd_seq (pss_cons (pd_fdput T.g_Graph T.cl_Graph T.na_Graph_targets (ps_asg (pd_var (pv 7)) (pg_sub (pe_fldK (K := K) rfl (pe_fld (pv 0) (by rfl))) (peA fun c => (pd_tup (pe_tup (pd_acons (pa_cons (pd_var (pv 6)) (pd_acons (pa_cons (pd_var (pv 5)) (pd_anil pa_nil)))))))) (set_dict hr.units))))
      (pss_one (pd_fdput T.g_Graph T.cl_Graph T.na_Graph_targets (ps_asg (pd_var (pv 6)) (pg_sub (pe_fldK (K := K) rfl (pe_fld (pv 0) (by rfl))) (peA fun c => (pd_tup (pe_tup (pd_acons (pa_cons (pd_var (pv 7)) (pd_acons (pa_cons (pd_m0 d_upper (pe_m0 PySem.F.slot_str_upper PySem.F.type_str_upper mt_upper (pd_var (pv 5)))) (pd_anil pa_nil)))))))) (set_dict hr.units))))))))))))))))))))))

theorem sc_law_back : FnScope ["_law_step"] ["_law_step"] (defScope s_law_back) := ⟨rfl, rfl, rfl, by decide +kernel, rfl, by decide +kernel, by decide +kernel⟩
def nm_law_back : List Str := ["_law_step"]
theorem ok_law_back (T : Txt K mg A) : FnG P w K mg base (L2.CX P w) 1 A.a_law_back A.d_law_back ["_law_step"] (spP K mg 1 m_law_back) := by
  refine fnX T.f_law_back sc_law_back (fun vs H Q E h => h.1) (fun cdv A_ outer s H vs Q E hr h => ?_)
  refine ⟨_, pssA (wx := fun cls d _ H => E cls d H) (b := b_law_back) (fun c => ?_), runP_go (k := 0) rfl h⟩
  exact (pss_one (pd_ret (ps_ret (pd_op2 d_ix (pe_ix (ix_seqK (K := K) rfl) (pd_cS pe_str) (pd_op2 d_xor (pe_op op_xor (pd_m1 d_index (pe_m1 PySem.F.slot_str_index PySem.F.type_str_index mt_sindex (pd_cS pe_str) (pd_var (pv 0)))) (pd_cI pe_int))) (fun _ _ => rfl))))))

theorem sc_law_targets : FnScope ["_law_edges_here", "_law_targets_here", "_law_letter", "_law_source", "_law_node"] ["_law_edges_here"] (defScope s_law_targets) := ⟨rfl, rfl, rfl, by decide +kernel, rfl, by decide +kernel, by decide +kernel⟩
def nm_law_targets : List Str := ["_law_edges_here", "_law_targets_here", "_law_letter", "_law_source", "_law_node"]
theorem ok_law_targets (T : Txt K mg A) : FnG P w K mg base (L2.CX P w) 2 A.a_law_targets A.d_law_targets ["_law_edges_here"] (spP K mg 1 m_law_targets) := by
  refine fnX T.f_law_targets sc_law_targets (fun vs H Q E h => h.1) (fun cdv A_ outer s H vs Q E hr h => ?_)
  refine ⟨_, pssA (wx := fun cls d _ H => E cls d H) (b := b_law_targets) (fun c => ?_), runP_go (k := 4) rfl h⟩
  exact (pd_seq (pss_cons (pd_set (ps_set (i := 1) sc_law_targets.nd rfl (by first | exact Or.inl rfl | exact Or.inr rfl) (pd_dnewT pe_dnewT)))
      (pd_seq (pss_cons (pd_fo (ps_for (passes_of rfl) rfl (pd_iof (pi_anyK (K := K) rfl (pd_var (pv 0)))) (pd_gtup (pg_tupK (K := K) (n := 3) rfl rfl (pd_gcons (pgs_cons (pd_gname (pg_name (i := 2) sc_law_targets.nd rfl (by first | exact Or.inl rfl | exact Or.inr rfl))) (pd_gcons (pgs_cons (pd_gname (pg_name (i := 3) sc_law_targets.nd rfl (by first | exact Or.inl rfl | exact Or.inr rfl))) (pd_gcons (pgs_cons (pd_gname (pg_name (i := 4) sc_law_targets.nd rfl (by first | exact Or.inl rfl | exact Or.inr rfl))) (pd_gnil pgs_nil))))))))) (pd_seq (pss_cons (pd_dput (ps_asg (pd_var (pv 4)) (pg_sub (pv 1) (pd_tup (pe_tup (pd_acons (pa_cons (pd_var (pv 3)) (pd_acons (pa_cons (pd_var (pv 2)) (pd_anil pa_nil))))))) (set_dict hr.units))))
      (pss_one (pd_dput (ps_asg (pd_var (pv 3)) (pg_sub (pv 1) (pd_tup (pe_tup (pd_acons (pa_cons (pd_var (pv 4)) (pd_acons (pa_cons (pd_call (pc_try (W := _) (ok_law_back T) (hr.mono (by decide)) (by rfl) T.g_law_back T.f_law_back.kp T.b_law_back (takes_of rfl rfl rfl rfl) (pd_acons (pa_cons (pd_var (pv 2)) (pd_anil pa_nil))))) (pd_anil pa_nil))))))) (set_dict hr.units)))))))))
      (pss_one (pd_ret (ps_ret (pd_var (pv 1)))))))))

theorem sc_InvalidNode___init__ : FnScope ["self", "value"] ["self", "value"] (defScope s_InvalidNode___init__) := ⟨rfl, rfl, rfl, by decide +kernel, rfl, by decide +kernel, by decide +kernel⟩
def nm_InvalidNode___init__ : List Str := ["self", "value"]
def sp_InvalidNode___init__ (_ : PySem.W.Frag) (A : Ad) : Sp := sp_in1 A.k_InvalidNode "value"
theorem ok_InvalidNode___init__ (T : Txt K mg A) : FnG P w K mg base CX0 1 A.a_InvalidNode___init__ A.d_InvalidNode___init__ ["self", "value"] (sp_InvalidNode___init__ K A) := by
  refine fn0 T.f_InvalidNode___init__ sc_InvalidNode___init__ (fun vs H Q E h => ?_) (fun cdv A_ outer s H vs Q E hr h => ?_)
  · first | (obtain ⟨_, rfl, _⟩ := h; rfl) | (obtain ⟨_, _, rfl, _⟩ := h; rfl) | (obtain ⟨_, _, _, rfl, _⟩ := h; rfl) | (obtain ⟨_, _, _, _, rfl, _⟩ := h; rfl) | (obtain ⟨_, _, _, _, _, rfl, _⟩ := h; rfl) | (obtain ⟨_, _, _, _, _, _, rfl, _⟩ := h; rfl) | (obtain ⟨rfl, _⟩ := h; rfl)
  · obtain ⟨a, v, rfl, ha, q⟩ := h
    refine ⟨_, (pss_cons (ps_expr (pe_iniB ebI_ok (by decide +kernel) (by rfl) T.z_IndexError (by decide +kernel) (by kernel_rfl) (by decide +kernel) T.v_IndexError (pa_cons (pv 0) (pa_cons pe_str pa_nil)))) (pss_one (ps_fld ebI_ok (pv 0) (pv 1)))), ?_⟩
    dsimp only [L2.cxOf, L2.Cx.nox, L2.Cx.wish, L2.start, List.map, List.length_cons, List.length_nil, Nat.reduceAdd, Nat.reduceSub, List.replicate, List.cons_append, List.nil_append, nm_InvalidNode___init__]
    walk_at "hx go"
    refine ⟨a, A.k_InvalidNode, [_], rfl, by decide, T.x_InvalidNode, ha, ?_⟩
    walk_at "hx go"
    exact ⟨a, A.k_InvalidNode, rfl, T.x_InvalidNode, taker_of T.n_InvalidNode_value, Or.inl ⟨ha, fun dx nd ne => q dx nd ne⟩⟩

theorem sc_InvalidPath___init__ : FnScope ["self", "value"] ["self", "value"] (defScope s_InvalidPath___init__) := ⟨rfl, rfl, rfl, by decide +kernel, rfl, by decide +kernel, by decide +kernel⟩
def nm_InvalidPath___init__ : List Str := ["self", "value"]
def sp_InvalidPath___init__ (_ : PySem.W.Frag) (A : Ad) : Sp := sp_in1 A.k_InvalidPath "value"
theorem ok_InvalidPath___init__ (T : Txt K mg A) : FnG P w K mg base CX0 1 A.a_InvalidPath___init__ A.d_InvalidPath___init__ ["self", "value"] (sp_InvalidPath___init__ K A) := by
  refine fn0 T.f_InvalidPath___init__ sc_InvalidPath___init__ (fun vs H Q E h => ?_) (fun cdv A_ outer s H vs Q E hr h => ?_)
  · first | (obtain ⟨_, rfl, _⟩ := h; rfl) | (obtain ⟨_, _, rfl, _⟩ := h; rfl) | (obtain ⟨_, _, _, rfl, _⟩ := h; rfl) | (obtain ⟨_, _, _, _, rfl, _⟩ := h; rfl) | (obtain ⟨_, _, _, _, _, rfl, _⟩ := h; rfl) | (obtain ⟨_, _, _, _, _, _, rfl, _⟩ := h; rfl) | (obtain ⟨rfl, _⟩ := h; rfl)
  · obtain ⟨a, v, rfl, ha, q⟩ := h
    refine ⟨_, (pss_cons (ps_expr (pe_iniC ebV_ok (by decide +kernel) (by rfl) T.g_PathError T.s_PathError T.r_PathError T.v_PathError (pa_cons (pv 0) (pa_cons pe_str pa_nil)))) (pss_one (ps_fld ebV_ok (pv 0) (pv 1)))), ?_⟩
    dsimp only [L2.cxOf, L2.Cx.nox, L2.Cx.wish, L2.start, List.map, List.length_cons, List.length_nil, Nat.reduceAdd, Nat.reduceSub, List.replicate, List.cons_append, List.nil_append, nm_InvalidPath___init__]
    walk_at "hx go"
    refine ⟨a, A.k_InvalidPath, [_], rfl, by decide, T.x_InvalidPath, ha, ?_⟩
    walk_at "hx go"
    exact ⟨a, A.k_InvalidPath, rfl, T.x_InvalidPath, taker_of T.n_InvalidPath_value, Or.inl ⟨ha, fun dx nd ne => q dx nd ne⟩⟩

theorem sc_Graph_follow : FnScope ["self", "node", "step"] ["self", "node", "step"] (defScope s_Graph_follow) := ⟨rfl, rfl, rfl, by decide +kernel, rfl, by decide +kernel, by decide +kernel⟩
def nm_Graph_follow : List Str := ["self", "node", "step"]
theorem ok_Graph_follow (T : Txt K mg A) : FnG P w K mg base (L2.CX P w) 1 A.a_Graph_follow A.d_Graph_follow ["self", "node", "step"] (spP K mg 3 m_Graph_follow) := by
  refine fnX T.f_Graph_follow sc_Graph_follow (fun vs H Q E h => h.1) (fun cdv A_ outer s H vs Q E hr h => ?_)
  refine ⟨_, pssA (wx := fun cls d _ H => E cls d H) (b := b_Graph_follow) (fun c => ?_), runP_go (k := 0) rfl h⟩
  exact (pss_one (pd_ret (ps_ret (pd_dg2 (pe_dget2 (Nat.lt_of_le_of_lt (Nat.add_le_add_left (by decide) _) hr.units) (pd_fld T.g_Graph T.cl_Graph T.na_Graph_targets (pe_fldK (K := K) rfl (pe_fld (pd_var (pv 0)) (by rfl)))) (pd_tup (pe_tup (pd_acons (pa_cons (pd_var (pv 1)) (pd_acons (pa_cons (pd_var (pv 2)) (pd_anil pa_nil))))))) (pd_cN pe_non) ⟨by rfl, by rfl, by rfl, by rfl⟩)))))

theorem sc_Graph_target : FnScope ["self", "node", "step"] ["self", "node", "step"] (defScope s_Graph_target) := ⟨rfl, rfl, rfl, by decide +kernel, rfl, by decide +kernel, by decide +kernel⟩
def nm_Graph_target : List Str := ["self", "node", "step"]
theorem ok_Graph_target (T : Txt K mg A) : FnG P w K mg base (L2.CX P w) 3 A.a_Graph_target A.d_Graph_target ["self", "node", "step"] (spP K mg 3 m_Graph_target) := by
  refine fnX T.f_Graph_target sc_Graph_target (fun vs H Q E h => h.1) (fun cdv A_ outer s H vs Q E hr h => ?_)
  refine ⟨_, pssA (wx := fun cls d _ H => E cls d H) (b := b_Graph_target) (fun c => ?_), runP_go (k := 0) rfl h⟩
  exact (pd_seq (pss_cons (pd_ifs (ps_if (pd_tnot (pt_not (pd_tval (pt_val (pd_methDn T.g_Graph kg_Graph_has_node_2__gw (pm_a (W := _) (pd_var (pv 0)) T.cl_Graph T.me_Graph_has_node (ok_Graph_has_node T) (hr.mono (by decide)) T.kb_Graph_has_node_2_ (takes_of rfl rfl rfl rfl) (pd_acons (pa_cons (pd_var (pv 1)) (pd_anil pa_nil))))))))) (pss_one (pd_raise1 T.g_InvalidNode (ps_raise rfl (takes_of rfl rfl rfl rfl) (pmk_x ebI_ok T.x_InvalidNode T.i_InvalidNode T.t_InvalidNode (ok_InvalidNode___init__ T) (hr.mono (by decide)) T.b_InvalidNode___init__ pass0 (by rfl) T.g_InvalidNode (pd_acons (pa_cons (pd_var (pv 1)) (pd_anil pa_nil))))))) (pd_nil pss_nil)))
      (pd_seq (pss_cons (pd_ifs (ps_if (PW.pt (pd_tor (pw_or (pd_tnot (pt_not (pd_tval (pt_val (pd_cb d_isa (pe_callB (call_isiYK (K := K) rfl) (by rfl) T.z_isinstance PyProof.Rows.boot_isinstance (pd_acons (pa_cons (pd_var (pv 2)) (pd_acons (pa_cons (pd_c (pe_bltn (v := .ty "str") (by rfl) T.z_str (by decide +kernel) rfl) (fun _ => .ty _)) (pd_anil pa_nil))))))))))) (pd_tor (pw_or (pd_tcmp d_ne (pt_cmpR (op_neW (K := K) rfl hr.units) (pd_cb d_len (pe_callB (call_lenUK (K := K) rfl) (by rfl) T.z_len PySem.boot_len (pd_acons (pa_cons (pd_var (pv 2)) (pd_anil pa_nil))))) (pd_cI pe_int) rfl)) (pw_or1 (pd_tcmp d_nin (pt_cmpR (op_ninU (K := K) rfl) (pd_var (pv 2)) (pd_cS (pe_gS T.c_STEPS)) rfl)))))))) (pss_one (pd_raise1 T.g_InvalidPath (ps_raise rfl (takes_of rfl rfl rfl rfl) (pmk_x ebV_ok T.x_InvalidPath T.i_InvalidPath T.t_InvalidPath (ok_InvalidPath___init__ T) (hr.mono (by decide)) T.b_InvalidPath___init__ pass0 (by rfl) T.g_InvalidPath (pd_acons (pa_cons (pd_var (pv 2)) (pd_anil pa_nil))))))) (pd_nil pss_nil)))
      (pss_one (pd_ret (ps_ret (pd_methDn T.g_Graph kg_Graph_follow_3__gw (pm_a (W := _) (pd_var (pv 0)) T.cl_Graph T.me_Graph_follow (ok_Graph_follow T) (hr.mono (by decide)) T.kb_Graph_follow_3_ (takes_of rfl rfl rfl rfl) (pd_acons (pa_cons (pd_var (pv 1)) (pd_acons (pa_cons (pd_var (pv 2)) (pd_anil pa_nil))))))))))))))

theorem sc_Graph_missing : FnScope ["self", "node", "step"] ["self"] (defScope s_Graph_missing) := ⟨rfl, rfl, rfl, by decide +kernel, rfl, by decide +kernel, by decide +kernel⟩
def nm_Graph_missing : List Str := ["self", "node", "step"]
theorem ok_Graph_missing (T : Txt K mg A) : FnG P w K mg base (L2.CX P w) 1 A.a_Graph_missing A.d_Graph_missing ["self"] (spP K mg 1 m_Graph_missing) := by
  refine fnX T.f_Graph_missing sc_Graph_missing (fun vs H Q E h => h.1) (fun cdv A_ outer s H vs Q E hr h => ?_)
  refine ⟨_, pssA (wx := fun cls d _ H => E cls d H) (b := b_Graph_missing) (fun c => ?_), runP_go (k := 2) rfl h⟩
  exact (pss_one (pd_ret (ps_ret (pd_lc2 (pe_lc2 (own := [("node", 1), ("step", 2)]) (vs1 := [2]) rfl sc_Graph_missing.nd (pd_rng1 (pi_range1 (by rfl) T.z_range (pd_acons (pa_cons (pd_fld T.g_Graph T.cl_Graph T.na_Graph_node_count (pe_fldK (K := K) rfl (pe_fld (pd_var (pv 0)) (by rfl)))) (pd_anil pa_nil))))) (blkOk_by (N := nm_Graph_missing) (sc := defScope s_Graph_missing) (by decide +kernel)) (by decide) (fun _ _ _ _ _ => (pgA fun c => (pd_gname (pg_name (i := 1) sc_Graph_missing.nd rfl (by first | exact Or.inl rfl | exact Or.inr rfl))))) (fun _ _ _ _ _ => ptsN) (fun _ _ _ _ _ => (piA fun c => (pd_iof (pi_anyK (K := K) rfl (pd_cS (pe_gS T.c_STEPS)))))) (fun _ _ _ _ _ => (pgA fun c => (pd_gname (pg_name (i := 2) sc_Graph_missing.nd rfl (by first | exact Or.inl rfl | exact Or.inr rfl))))) (fun _ _ _ _ _ => (ptsA fun c => (pd_tcmp d_dni (pt_cmpR (op_dni hr.units) (pd_tup (pe_tup (pd_acons (pa_cons (pd_var (pv 1)) (pd_acons (pa_cons (pd_var (pv 2)) (pd_anil pa_nil))))))) (pd_fld T.g_Graph T.cl_Graph T.na_Graph_targets (pe_fldK (K := K) rfl (pe_fld (pd_var (pv 0)) (by rfl)))) rfl)))) (fun _ _ _ _ _ => (peA fun c => (pd_tup (pe_tup (pd_acons (pa_cons (pd_var (pv 1)) (pd_acons (pa_cons (pd_var (pv 2)) (pd_anil pa_nil))))))))))))))

theorem sc_Graph_is_complete : FnScope ["self"] ["self"] (defScope s_Graph_is_complete) := ⟨rfl, rfl, rfl, by decide +kernel, rfl, by decide +kernel, by decide +kernel⟩
def nm_Graph_is_complete : List Str := ["self"]
theorem ok_Graph_is_complete (T : Txt K mg A) : FnG P w K mg base (L2.CX P w) 1 A.a_Graph_is_complete A.d_Graph_is_complete ["self"] (spP K mg 1 m_Graph_is_complete) := by
  refine fnX T.f_Graph_is_complete sc_Graph_is_complete (fun vs H Q E h => h.1) (fun cdv A_ outer s H vs Q E hr h => ?_)
  refine ⟨_, pssA (wx := fun cls d _ H => E cls d H) (b := b_Graph_is_complete) (fun c => ?_), runP_go (k := 0) rfl h⟩
  exact (pss_one (pd_ret (ps_ret (pd_op2 d_eq (pe_cmpR (op_eqW (K := K) rfl hr.units) (pd_lenD (pe_callB call_lenX (by rfl) T.z_len PySem.boot_len (pa_cons (pd_fld T.g_Graph T.cl_Graph T.na_Graph_targets (pe_fldK (K := K) rfl (pe_fld (pd_var (pv 0)) (by rfl)))) pa_nil))) (pd_op2 d_mul (pe_op op_mulU (pd_fld T.g_Graph T.cl_Graph T.na_Graph_node_count (pe_fldK (K := K) rfl (pe_fld (pd_var (pv 0)) (by rfl)))) (pd_cb d_len (pe_callB (call_lenUK (K := K) rfl) (by rfl) T.z_len PySem.boot_len (pd_acons (pa_cons (pd_cS (pe_gS T.c_STEPS)) (pd_anil pa_nil))))))) rfl)))))

theorem sc_law_agrees : FnScope ["_law_graph", "_law_targets_here", "_law_size", "_law_absent", "_law_node", "_law_step", "_law_other", "_law_listed"] ["_law_graph", "_law_targets_here", "_law_size"] (defScope s_law_agrees) := ⟨rfl, rfl, rfl, by decide +kernel, rfl, by decide +kernel, by decide +kernel⟩
def nm_law_agrees : List Str := ["_law_graph", "_law_targets_here", "_law_size", "_law_absent", "_law_node", "_law_step", "_law_other", "_law_listed"]
theorem ok_law_agrees (T : Txt K mg A) : FnG P w K mg base (L2.CX P w) 4 A.a_law_agrees A.d_law_agrees ["_law_graph", "_law_targets_here", "_law_size"] (spP K mg 3 m_law_agrees) := by
  refine fnX T.f_law_agrees sc_law_agrees (fun vs H Q E h => h.1) (fun cdv A_ outer s H vs Q E hr h => ?_)
  refine ⟨_, pssA (wx := fun cls d _ H => E cls d H) (b := b_law_agrees) (fun c => ?_), runP_go (k := 5) rfl h⟩
  exact (pd_seq (pss_cons (pd_set (ps_set (i := 3) sc_law_agrees.nd rfl (by first | exact Or.inl rfl | exact Or.inr rfl) (pd_lst (pe_lst (pd_anil pa_nil)))))
      (pd_seq (pss_cons (pd_fo (ps_for (passes_of rfl) rfl (pd_rng1 (pi_range1 (by rfl) T.z_range (pd_acons (pa_cons (pd_var (pv 2)) (pd_anil pa_nil))))) (pd_gname (pg_name (i := 4) sc_law_agrees.nd rfl (by first | exact Or.inl rfl | exact Or.inr rfl))) (pss_one (pd_fo (ps_for (passes_of rfl) rfl (pd_iof (pi_anyK (K := K) rfl (pd_cS pe_str))) (pd_gname (pg_name (i := 5) sc_law_agrees.nd rfl (by first | exact Or.inl rfl | exact Or.inr rfl))) (pd_seq (pss_cons (pd_set (ps_set (i := 6) sc_law_agrees.nd rfl (by first | exact Or.inl rfl | exact Or.inr rfl) (pd_methDn T.g_Graph kg_Graph_target_3__gw (pm_a (W := _) (pd_var (pv 0)) T.cl_Graph T.me_Graph_target (ok_Graph_target T) (hr.mono (by decide)) T.kb_Graph_target_3_ (takes_of rfl rfl rfl rfl) (pd_acons (pa_cons (pd_var (pv 4)) (pd_acons (pa_cons (pd_var (pv 5)) (pd_anil pa_nil)))))))))
      (pd_seq (pss_cons (pd_ifs (ps_if (pd_tcmp d_ne (pt_cmpR (op_neW (K := K) rfl hr.units) (pd_cb d_repr (pe_callB (call_reprW (K := K) (mg := mg) rfl hr.gd hr.units) (by rfl) T.z_repr PyProof.Rows.boot_repr (pd_acons (pa_cons (pd_var (pv 6)) (pd_anil pa_nil))))) (pd_cb d_repr (pe_callB (call_reprW (K := K) (mg := mg) rfl hr.gd hr.units) (by rfl) T.z_repr PyProof.Rows.boot_repr (pd_acons (pa_cons (pd_dg1 (pe_dget1 (Nat.lt_of_le_of_lt (Nat.add_le_add_left (by decide) _) hr.units) (pd_var (pv 1)) (pd_tup (pe_tup (pd_acons (pa_cons (pd_var (pv 4)) (pd_acons (pa_cons (pd_var (pv 5)) (pd_anil pa_nil))))))) ⟨by rfl, by rfl, by rfl, by rfl⟩)) (pd_anil pa_nil))))) rfl)) (pss_one (pd_ret (ps_ret (pd_cB pe_bl)))) (pd_nil pss_nil)))
      (pss_one (pd_ifs (ps_if (pd_tcmp d_isN (pt_cmpR op_isN (pd_var (pv 6)) (pd_cN pe_non) rfl)) (pss_one (pd_drop (ps_expr (pd_lm lm_append (pe_bmK (K := K) rfl (pe_bm PySem.F.plainAttrs_list PySem.F.slot_list_append PySem.F.type_list_append mt_append (pv 3) (pd_acons (pa_cons (pd_tup (pe_tup (pd_acons (pa_cons (pd_var (pv 4)) (pd_acons (pa_cons (pd_var (pv 5)) (pd_anil pa_nil))))))) (pd_anil pa_nil))))))))) (pss_one (pd_ifs (ps_if (pd_tcmp d_ne (pt_cmpR (op_neW (K := K) rfl hr.units) (pd_cb d_repr (pe_callB (call_reprW (K := K) (mg := mg) rfl hr.gd hr.units) (by rfl) T.z_repr PyProof.Rows.boot_repr (pd_acons (pa_cons (pd_methDn T.g_Graph kg_Graph_target_3__gw (pm_a (W := _) (pd_var (pv 0)) T.cl_Graph T.me_Graph_target (ok_Graph_target T) (hr.mono (by decide)) T.kb_Graph_target_3_ (takes_of rfl rfl rfl rfl) (pd_acons (pa_cons (pd_var (pv 6)) (pd_acons (pa_cons (pd_call (pc_try (W := _) (ok_law_back T) (hr.mono (by decide)) (by rfl) T.g_law_back T.f_law_back.kp T.b_law_back (takes_of rfl rfl rfl rfl) (pd_acons (pa_cons (pd_var (pv 5)) (pd_anil pa_nil))))) (pd_anil pa_nil))))))) (pd_anil pa_nil))))) (pd_cb d_repr (pe_callB (call_reprW (K := K) (mg := mg) rfl hr.gd hr.units) (by rfl) T.z_repr PyProof.Rows.boot_repr (pd_acons (pa_cons (pd_var (pv 4)) (pd_anil pa_nil))))) rfl)) (pss_one (pd_ret (ps_ret (pd_cB pe_bl)))) (pd_nil pss_nil))))))))))))))))
      (pd_seq (pss_cons (pd_set (ps_set (i := 7) sc_law_agrees.nd rfl (by first | exact Or.inl rfl | exact Or.inr rfl) (pd_methD0 T.g_Graph kg_Graph_missing_1__gw (pm_0 (W := _) (pd_var (pv 0)) T.cl_Graph T.me_Graph_missing (ok_Graph_missing T) (hr.mono (by decide)) T.kb_Graph_missing_1_ (takes_of rfl rfl rfl rfl)))))
      (pd_seq (pss_cons (pd_ifs (ps_if (PW.pt (pd_tor (pw_or (pd_tcmp d_ne (pt_cmpR (op_neW (K := K) rfl hr.units) (pd_var (pv 7)) (pd_var (pv 3)) rfl)) (pw_or1 (pd_tcmp d_ne (pt_cmpR (op_neW (K := K) rfl hr.units) (pd_cb d_repr (pe_callB (call_reprW (K := K) (mg := mg) rfl hr.gd hr.units) (by rfl) T.z_repr PyProof.Rows.boot_repr (pd_acons (pa_cons (pd_methD0 T.g_Graph kg_Graph_is_complete_1__gw (pm_0 (W := _) (pd_var (pv 0)) T.cl_Graph T.me_Graph_is_complete (ok_Graph_is_complete T) (hr.mono (by decide)) T.kb_Graph_is_complete_1_ (takes_of rfl rfl rfl rfl))) (pd_anil pa_nil))))) (pd_cb d_repr (pe_callB (call_reprW (K := K) (mg := mg) rfl hr.gd hr.units) (by rfl) T.z_repr PyProof.Rows.boot_repr (pd_acons (pa_cons (pd_op2 d_eq (pe_cmpR (op_eqW (K := K) rfl hr.units) (pd_var (pv 3)) (pd_lst (pe_lst (pd_anil pa_nil))) rfl)) (pd_anil pa_nil))))) rfl)))))) (pss_one (pd_ret (ps_ret (pd_cB pe_bl)))) (pd_nil pss_nil)))
      (pd_seq (pss_cons (pd_drop (ps_expr (pd_lm lm_append (pe_bmK (K := K) rfl (pe_bm PySem.F.plainAttrs_list PySem.F.slot_list_append PySem.F.type_list_append mt_append (pv 7) (pd_acons (pa_cons (pd_cN pe_non) (pd_anil pa_nil))))))))
      (pss_one (pd_ret (ps_ret (pd_and (pe_andTK (K := K) rfl (pd_op2 d_eq (pe_cmpR (op_eqW (K := K) rfl hr.units) (pd_methD0 T.g_Graph kg_Graph_missing_1__gw (pm_0 (W := _) (pd_var (pv 0)) T.cl_Graph T.me_Graph_missing (ok_Graph_missing T) (hr.mono (by decide)) T.kb_Graph_missing_1_ (takes_of rfl rfl rfl rfl))) (pd_var (pv 3)) rfl)) (pe_one (pd_op2 d_eq (pe_cmpR (op_eqW (K := K) rfl hr.units) (pd_var (pv 7)) (pd_op2 d_add (pe_op (op_addUT (K := K) rfl) (pd_var (pv 3)) (pd_lst (pe_lst (pd_acons (pa_cons (pd_cN pe_non) (pd_anil pa_nil))))))) rfl))))))))))))))))))

theorem sc_law_actual : FnScope ["_law_graph", "_law_node", "_law_step", "e"] ["_law_graph", "_law_node", "_law_step"] (defScope s_law_actual) := ⟨rfl, rfl, rfl, by decide +kernel, rfl, by decide +kernel, by decide +kernel⟩
def nm_law_actual : List Str := ["_law_graph", "_law_node", "_law_step", "e"]
theorem ok_law_actual (T : Txt K mg A) : FnG P w K mg base (L2.CX P w) 4 A.a_law_actual A.d_law_actual ["_law_graph", "_law_node", "_law_step"] (spP K mg 3 m_law_actual) := by
  refine fnX T.f_law_actual sc_law_actual (fun vs H Q E h => h.1) (fun cdv A_ outer s H vs Q E hr h => ?_)
  refine ⟨_, pssA (wx := fun cls d _ H => E cls d H) (b := b_law_actual) (fun c => ?_), runP_go (k := 1) rfl h⟩
  exact (pd_seq (pss_cons (pd_try rfl rfl rfl (takes_of rfl rfl rfl rfl) (fun W pn xe tk po => (pss_one (pd_drop (ps_expr (pd_methDn T.g_Graph kg_Graph_target_3__gw (pm_a (W := _) (pd_var (pv 0)) T.cl_Graph T.me_Graph_target (ok_Graph_target T) (hr.mono (by decide)) T.kb_Graph_target_3_ tk (pd_acons (pa_cons (pd_var (pv 1)) (pd_acons (pa_cons (pd_var (pv 2)) (pd_anil pa_nil))))))))))) (.as (i := 3) ⟨rfl, by decide, Or.inl T.g_InvalidNode⟩ sc_law_actual.nd rfl rfl (fun a oe cls d pn hz hf => (pss_one (pd_ret (ps_ret (pd_lst (pe_lst (pd_acons (pa_cons (pd_cS pe_str) (pd_acons (pa_cons (pd_cb d_repr (pe_callB (call_reprW (K := K) (mg := mg) rfl hr.gd hr.units) (by rfl) T.z_repr PyProof.Rows.boot_repr (pd_acons (pa_cons (pd_xf T.g_InvalidNode (pe_xf T.x_InvalidNode.xf T.n_InvalidNode_value hz hf (pv 3))) (pd_anil pa_nil))))) (pd_acons (pa_cons (pd_and (pe_andTK (K := K) rfl (pd_isx T.g_InvalidNode relv_ty T.ko_InvalidNode_IndexError (pe_callB (call_isX T.x_InvalidNode hz hf) (by rfl) T.z_isinstance PyProof.Rows.boot_isinstance (pa_cons (pv 3) (pa_cons (pe_bltn (v := .ty "IndexError") (by rfl) T.z_IndexError (by decide +kernel) rfl) pa_nil)))) (pe_one (pd_not (pe_not (pd_isx T.g_InvalidNode relv_ref T.ko_InvalidNode_PathError (pe_callB (call_isX T.x_InvalidNode hz hf) (by rfl) T.z_isinstance PyProof.Rows.boot_isinstance (pa_cons (pv 3) (pa_cons (pe_glob (v := .ref A.k_PathError) (by rfl) T.g_PathError rfl) pa_nil))))))))) (pd_anil pa_nil))))))))))))) (.as (i := 3) ⟨rfl, by decide, Or.inl T.g_InvalidPath⟩ sc_law_actual.nd rfl rfl (fun a oe cls d pn hz hf => (pss_one (pd_ret (ps_ret (pd_lst (pe_lst (pd_acons (pa_cons (pd_cS pe_str) (pd_acons (pa_cons (pd_cb d_repr (pe_callB (call_reprW (K := K) (mg := mg) rfl hr.gd hr.units) (by rfl) T.z_repr PyProof.Rows.boot_repr (pd_acons (pa_cons (pd_xf T.g_InvalidPath (pe_xf T.x_InvalidPath.xf T.n_InvalidPath_value hz hf (pv 3))) (pd_anil pa_nil))))) (pd_acons (pa_cons (pd_and (pe_andTK (K := K) rfl (pd_isx T.g_InvalidPath relv_ref T.ko_InvalidPath_PathError (pe_callB (call_isX T.x_InvalidPath hz hf) (by rfl) T.z_isinstance PyProof.Rows.boot_isinstance (pa_cons (pv 3) (pa_cons (pe_glob (v := .ref A.k_PathError) (by rfl) T.g_PathError rfl) pa_nil)))) (pe_one (pd_isx T.g_InvalidPath relv_ty T.ko_InvalidPath_ValueError (pe_callB (call_isX T.x_InvalidPath hz hf) (by rfl) T.z_isinstance PyProof.Rows.boot_isinstance (pa_cons (pv 3) (pa_cons (pe_bltn (v := .ty "ValueError") (by rfl) T.z_ValueError (by decide +kernel) rfl) pa_nil))))))) (pd_anil pa_nil))))))))))))) .nil)) (.cons (clm_cons T.g_InvalidNode T.m_InvalidNode_InvalidNode (clm_cons T.g_InvalidPath T.m_InvalidPath_InvalidNode clm_nil)) (.cons (clm_cons T.g_InvalidNode T.m_InvalidNode_InvalidPath (clm_cons T.g_InvalidPath T.m_InvalidPath_InvalidPath clm_nil)) .nil)))
      (pss_one (pd_ret (ps_ret (pd_lst (pe_lst (pd_acons (pa_cons (pd_cS pe_str) (pd_anil pa_nil))))))))))

theorem sc_law_errors : FnScope ["_law_graph", "_law_size", "_law_bad", "_law_step"] ["_law_graph", "_law_size"] (defScope s_law_errors) := ⟨rfl, rfl, rfl, by decide +kernel, rfl, by decide +kernel, by decide +kernel⟩
def nm_law_errors : List Str := ["_law_graph", "_law_size", "_law_bad", "_law_step"]
theorem ok_law_errors (T : Txt K mg A) : FnG P w K mg base (L2.CX P w) 5 A.a_law_errors A.d_law_errors ["_law_graph", "_law_size"] (spP K mg 2 m_law_errors) := by
  refine fnX T.f_law_errors sc_law_errors (fun vs H Q E h => h.1) (fun cdv A_ outer s H vs Q E hr h => ?_)
  refine ⟨_, pssA (wx := fun cls d _ H => E cls d H) (b := b_law_errors) (fun c => ?_), runP_go (k := 2) rfl h⟩
  exact (pd_seq (pss_cons (pd_fo (ps_for (passes_of rfl) rfl (pd_iof (pi_anyK (K := K) rfl (pd_lst (pe_lst (pd_acons (pa_cons (pd_op1 d_neg (pe_un un_neg (pd_cI pe_int))) (pd_acons (pa_cons (pd_var (pv 1)) (pd_acons (pa_cons (pd_cB pe_bl) (pd_acons (pa_cons (pd_cN pe_non) (pd_acons (pa_cons (pd_cS pe_str) (pd_acons (pa_cons (pd_tup (pe_tup (pd_acons (pa_cons (pd_cI pe_int) (pd_anil pa_nil))))) (pd_acons (pa_cons (pd_lst (pe_lst (pd_acons (pa_cons (pd_cI pe_int) (pd_anil pa_nil))))) (pd_acons (pa_cons (pd_op2 d_pow (pe_op op_pow (pd_cI pe_int) (pd_cI pe_int))) (pd_acons (pa_cons (pd_dnewK pe_dnewK) (pd_acons (pa_cons (pd_tup (pe_tup (pd_acons (pa_cons (pd_cI pe_int) (pd_acons (pa_cons (pd_lst (pe_lst (pd_anil pa_nil))) (pd_anil pa_nil))))))) (pd_anil pa_nil))))))))))))))))))))))))) (pd_gname (pg_name (i := 2) sc_law_errors.nd rfl (by first | exact Or.inl rfl | exact Or.inr rfl))) (pss_one (pd_fo (ps_for (passes_of rfl) rfl (pd_iof (pi_anyK (K := K) rfl (pd_lst (pe_lst (pd_acons (pa_cons (pd_cS pe_str) (pd_acons (pa_cons (pd_cS pe_str) (pd_acons (pa_cons (pd_cN pe_non) (pd_anil pa_nil))))))))))) (pd_gname (pg_name (i := 3) sc_law_errors.nd rfl (by first | exact Or.inl rfl | exact Or.inr rfl))) (pss_one (pd_ifs (ps_if (pd_tcmp d_ne (pt_cmpR (op_neW (K := K) rfl hr.units) (pd_call (pc_try (W := _) (ok_law_actual T) (hr.mono (by decide)) (by rfl) T.g_law_actual T.f_law_actual.kp T.b_law_actual (takes_of rfl rfl rfl rfl) (pd_acons (pa_cons (pd_var (pv 0)) (pd_acons (pa_cons (pd_var (pv 2)) (pd_acons (pa_cons (pd_var (pv 3)) (pd_anil pa_nil))))))))) (pd_lst (pe_lst (pd_acons (pa_cons (pd_cS pe_str) (pd_acons (pa_cons (pd_cb d_repr (pe_callB (call_reprW (K := K) (mg := mg) rfl hr.gd hr.units) (by rfl) T.z_repr PyProof.Rows.boot_repr (pd_acons (pa_cons (pd_var (pv 2)) (pd_anil pa_nil))))) (pd_acons (pa_cons (pd_cB pe_bl) (pd_anil pa_nil))))))))) rfl)) (pss_one (pd_ret (ps_ret (pd_cB pe_bl)))) (pd_nil pss_nil)))))))))
      (pd_seq (pss_cons (pd_fo (ps_for (passes_of rfl) rfl (pd_iof (pi_anyK (K := K) rfl (pd_lst (pe_lst (pd_acons (pa_cons (pd_cS pe_str) (pd_acons (pa_cons (pd_cS pe_str) (pd_acons (pa_cons (pd_cS pe_str) (pd_acons (pa_cons (pd_cN pe_non) (pd_acons (pa_cons (pd_cI pe_int) (pd_acons (pa_cons (pd_lst (pe_lst (pd_acons (pa_cons (pd_cS pe_str) (pd_anil pa_nil))))) (pd_acons (pa_cons (pd_cS pe_str) (pd_acons (pa_cons (pd_cS pe_str) (pd_acons (pa_cons (pd_dnewK pe_dnewK) (pd_acons (pa_cons (pd_tup (pe_tup (pd_acons (pa_cons (pd_cS pe_str) (pd_acons (pa_cons (pd_lst (pe_lst (pd_anil pa_nil))) (pd_anil pa_nil))))))) (pd_anil pa_nil))))))))))))))))))))))))) (pd_gname (pg_name (i := 2) sc_law_errors.nd rfl (by first | exact Or.inl rfl | exact Or.inr rfl))) (pss_one (pd_ifs (ps_if (pd_tcmp d_ne (pt_cmpR (op_neW (K := K) rfl hr.units) (pd_call (pc_try (W := _) (ok_law_actual T) (hr.mono (by decide)) (by rfl) T.g_law_actual T.f_law_actual.kp T.b_law_actual (takes_of rfl rfl rfl rfl) (pd_acons (pa_cons (pd_var (pv 0)) (pd_acons (pa_cons (pd_op2 d_sub (pe_op op_sub (pd_var (pv 1)) (pd_cI pe_int))) (pd_acons (pa_cons (pd_var (pv 2)) (pd_anil pa_nil))))))))) (pd_lst (pe_lst (pd_acons (pa_cons (pd_cS pe_str) (pd_acons (pa_cons (pd_cb d_repr (pe_callB (call_reprW (K := K) (mg := mg) rfl hr.gd hr.units) (by rfl) T.z_repr PyProof.Rows.boot_repr (pd_acons (pa_cons (pd_var (pv 2)) (pd_anil pa_nil))))) (pd_acons (pa_cons (pd_cB pe_bl) (pd_anil pa_nil))))))))) rfl)) (pss_one (pd_ret (ps_ret (pd_cB pe_bl)))) (pd_nil pss_nil))))))
      (pss_one (pd_ret (ps_ret (pd_cB pe_bl))))))))

theorem sc_law : FnScope ["_law_script", "_law_index", "_law_pool_here", "_law_size", "_law_edges_here", "_law_graph", "_law_targets_here"] ["_law_script"] (defScope s_law) := ⟨rfl, rfl, rfl, by decide +kernel, rfl, by decide +kernel, by decide +kernel⟩
def nm_law : List Str := ["_law_script", "_law_index", "_law_pool_here", "_law_size", "_law_edges_here", "_law_graph", "_law_targets_here"]
theorem ok_law (T : Txt K mg A) : FnG P w K mg base (L2.CX P w) 6 A.a_law A.d_law ["_law_script"] (spP K mg 1 m_law) := by
  refine fnX T.f_law sc_law (fun vs H Q E h => h.1) (fun cdv A_ outer s H vs Q E hr h => ?_)
  refine ⟨_, pssA (wx := fun cls d _ H => E cls d H) (b := b_law) (fun c => ?_), runP_go (k := 6) rfl h⟩
  exact (pd_seq (pss_cons (pd_fo (ps_for (passes_of rfl) rfl (pd_rng1 (pi_range1 (by rfl) T.z_range (pd_acons (pa_cons (pd_cb d_max (pe_callB (call_maxUK (K := K) rfl rfl) (by rfl) T.z_max PyProof.Rows.boot_max (pd_acons (pa_cons (pd_cI pe_int) (pd_acons (pa_cons (pd_cb d_min (pe_callB (call_minUK (K := K) rfl rfl) (by rfl) T.z_min (by decide +kernel) (pd_acons (pa_cons (pd_cI pe_int) (pd_acons (pa_cons (pd_cb d_len (pe_callB (call_lenUK (K := K) rfl) (by rfl) T.z_len PySem.boot_len (pd_acons (pa_cons (pd_var (pv 0)) (pd_anil pa_nil))))) (pd_anil pa_nil))))))) (pd_anil pa_nil))))))) (pd_anil pa_nil))))) (pd_gname (pg_name (i := 1) sc_law.nd rfl (by first | exact Or.inl rfl | exact Or.inr rfl))) (pd_seq (pss_cons (pd_set (ps_set (i := 2) sc_law.nd rfl (by first | exact Or.inl rfl | exact Or.inr rfl) (pd_call (pc_try (W := _) (ok_law_pool T) (hr.mono (by decide)) (by rfl) T.g_law_pool T.f_law_pool.kp T.b_law_pool (takes_of rfl rfl rfl rfl) (pd_acons (pa_cons (pd_var (pv 0)) (pd_acons (pa_cons (pd_var (pv 1)) (pd_anil pa_nil)))))))))
      (pd_seq (pss_cons (pd_set (ps_set (i := 3) sc_law.nd rfl (by first | exact Or.inl rfl | exact Or.inr rfl) (pd_op2 d_add (pe_op (op_addUT (K := K) rfl) (pd_cI pe_int) (pd_callI (pc_try (W := _) (ok_law_draw T) (hr.mono (by decide)) (by rfl) T.g_law_draw T.f_law_draw.kp T.b_law_draw (takes_of rfl rfl rfl rfl) (pa_cons (pv 2) (pd_acons (pa_cons (pd_cI pe_int) (pd_anil pa_nil))))))))))
      (pd_seq (pss_cons (pd_set (ps_set (i := 4) sc_law.nd rfl (by first | exact Or.inl rfl | exact Or.inr rfl) (pd_callI (pc_try (W := _) (ok_law_edges T) (hr.mono (by decide)) (by rfl) T.g_law_edges T.f_law_edges.kp T.b_law_edges (takes_of rfl rfl rfl rfl) (pa_cons (pv 2) (pd_acons (pa_cons (pd_var (pv 3)) (pd_anil pa_nil))))))))
      (pd_seq (pss_cons (pd_set (ps_set (i := 5) sc_law.nd rfl (by first | exact Or.inl rfl | exact Or.inr rfl) (pd_frz (pd_mkn T.g_Graph kg_Graph___init___2__gw (pn_a (W := _) T.mk_Graph (ok_Graph___init__ T) (hr.mono (by decide)) (by rfl) T.g_Graph T.kb_Graph___init___2_ (takes_of rfl rfl rfl rfl) (pd_acons (pa_cons (pd_var (pv 3)) (pd_acons (pa_cons (pd_var (pv 4)) (pd_anil pa_nil))))))))))
      (pd_seq (pss_cons (pd_set (ps_set (i := 6) sc_law.nd rfl (by first | exact Or.inl rfl | exact Or.inr rfl) (pd_call (pc_try (W := _) (ok_law_targets T) (hr.mono (by decide)) (by rfl) T.g_law_targets T.f_law_targets.kp T.b_law_targets (takes_of rfl rfl rfl rfl) (pd_acons (pa_cons (pd_var (pv 4)) (pd_anil pa_nil)))))))
      (pd_seq (pss_cons (pd_ifs (ps_if (PW.pt (pd_tor (pw_or (pd_tnot (pt_not (pd_tval (pt_val (pd_call (pc_try (W := _) (ok_law_agrees T) (hr.mono (by decide)) (by rfl) T.g_law_agrees T.f_law_agrees.kp T.b_law_agrees (takes_of rfl rfl rfl rfl) (pd_acons (pa_cons (pd_var (pv 5)) (pd_acons (pa_cons (pd_var (pv 6)) (pd_acons (pa_cons (pd_var (pv 3)) (pd_anil pa_nil))))))))))))) (pw_or1 (pd_tnot (pt_not (pd_tval (pt_val (pd_call (pc_try (W := _) (ok_law_errors T) (hr.mono (by decide)) (by rfl) T.g_law_errors T.f_law_errors.kp T.b_law_errors (takes_of rfl rfl rfl rfl) (pd_acons (pa_cons (pd_var (pv 5)) (pd_acons (pa_cons (pd_var (pv 3)) (pd_anil pa_nil))))))))))))))) (pss_one (pd_ret (ps_ret (pd_cB pe_bl)))) (pd_nil pss_nil)))
      (pss_one (pd_ifs (ps_if (pd_tnot (pt_not (pd_tval (pt_val (pd_call (pc_try (W := _) (ok_law_agrees T) (hr.mono (by decide)) (by rfl) T.g_law_agrees T.f_law_agrees.kp T.b_law_agrees (takes_of rfl rfl rfl rfl) (pd_acons (pa_cons (pd_var (pv 5)) (pd_acons (pa_cons (pd_var (pv 6)) (pd_acons (pa_cons (pd_var (pv 3)) (pd_anil pa_nil))))))))))))) (pss_one (pd_ret (ps_ret (pd_cB pe_bl)))) (pd_nil pss_nil))))))))))))))))))
      (pss_one (pd_ret (ps_ret (pd_cB pe_bl))))))
def sp_law (K : PySem.W.Frag) : Sp := fun vs H Q _ => ∃ (a : Addr) (ns : List Int), vs = [.ref a] ∧ SqL K H a (ns.map V.int) ∧ ns.length ≤ 63 ∧ ∀ H', Q (.bl true) H'
theorem ok_law2 (T : Txt K mg A) : FnG P w K mg base (L2.CX P w) 6 A.a_law A.d_law ["_law_script"] (sp_law K) :=
  (ok_law T).imp fun vs H Q E h => by
    obtain ⟨a, ns, rfl, hs, hl, q⟩ := h
    refine ⟨rfl, H, [.scr (ns.map D.int)], Up.of (Same.refl H), .cons (.scr hs (rd_ints ns)) .nil, ?_⟩
    rw [law_true ns hl]
    exact fun x F' H' a r => by rw [Rd.inv_bl r]; exact q H'

end
theorem all_mk {l : PySem.W.OpenLaw} {w : World} {K : PySem.W.Frag} {h : Heap} {mg : Str → Option Value} {fa : Addr} (X : K.In h) (G : h.Ns mainGlobals mg) (hfa : mg "law" = some (.ref fa))
    {f_law_pool f_law_draw f_law_edges f_is_integer f_InvalidNumber___init__ f_InvalidGraph___init__ f_Graph_has_node f_Graph_accepts f_Graph___init__ f_law_back f_law_targets f_InvalidNode___init__ f_InvalidPath___init__ f_Graph_follow f_Graph_target f_Graph_missing f_Graph_is_complete f_law_agrees f_law_actual f_law_errors f_law : Addr}
    {od_law_pool an_law_pool od_law_draw an_law_draw od_law_edges an_law_edges od_is_integer an_is_integer od_InvalidNumber___init__ an_InvalidNumber___init__ od_InvalidGraph___init__ an_InvalidGraph___init__ od_Graph_has_node an_Graph_has_node od_Graph_accepts an_Graph_accepts od_Graph___init__ an_Graph___init__ od_law_back an_law_back od_law_targets an_law_targets od_InvalidNode___init__ an_InvalidNode___init__ od_InvalidPath___init__ an_InvalidPath___init__ od_Graph_follow an_Graph_follow od_Graph_target an_Graph_target od_Graph_missing an_Graph_missing od_Graph_is_complete an_Graph_is_complete od_law_agrees an_law_agrees od_law_actual an_law_actual od_law_errors an_law_errors od_law an_law : Option Addr}
    {sl_law_pool sl_law_draw sl_law_edges sl_is_integer sl_InvalidNumber___init__ sl_InvalidGraph___init__ sl_Graph_has_node sl_Graph_accepts sl_Graph___init__ sl_law_back sl_law_targets sl_InvalidNode___init__ sl_InvalidPath___init__ sl_Graph_follow sl_Graph_target sl_Graph_missing sl_Graph_is_complete sl_law_agrees sl_law_actual sl_law_errors sl_law : Array (Option Value)}
    {oc_law_pool kV_law_pool dc_law_pool pm_law_pool cd_law_pool ct_law_pool oc_law_draw kV_law_draw dc_law_draw pm_law_draw cd_law_draw ct_law_draw oc_law_edges kV_law_edges dc_law_edges pm_law_edges cd_law_edges ct_law_edges oc_is_integer kV_is_integer dc_is_integer pm_is_integer cd_is_integer ct_is_integer oc_InvalidNumber___init__ kV_InvalidNumber___init__ dc_InvalidNumber___init__ pm_InvalidNumber___init__ cd_InvalidNumber___init__ ct_InvalidNumber___init__ oc_InvalidGraph___init__ kV_InvalidGraph___init__ dc_InvalidGraph___init__ pm_InvalidGraph___init__ cd_InvalidGraph___init__ ct_InvalidGraph___init__ oc_Graph_has_node kV_Graph_has_node dc_Graph_has_node pm_Graph_has_node cd_Graph_has_node ct_Graph_has_node oc_Graph_accepts kV_Graph_accepts dc_Graph_accepts pm_Graph_accepts cd_Graph_accepts ct_Graph_accepts oc_Graph___init__ kV_Graph___init__ dc_Graph___init__ pm_Graph___init__ cd_Graph___init__ ct_Graph___init__ oc_law_back kV_law_back dc_law_back pm_law_back cd_law_back ct_law_back oc_law_targets kV_law_targets dc_law_targets pm_law_targets cd_law_targets ct_law_targets oc_InvalidNode___init__ kV_InvalidNode___init__ dc_InvalidNode___init__ pm_InvalidNode___init__ cd_InvalidNode___init__ ct_InvalidNode___init__ oc_InvalidPath___init__ kV_InvalidPath___init__ dc_InvalidPath___init__ pm_InvalidPath___init__ cd_InvalidPath___init__ ct_InvalidPath___init__ oc_Graph_follow kV_Graph_follow dc_Graph_follow pm_Graph_follow cd_Graph_follow ct_Graph_follow oc_Graph_target kV_Graph_target dc_Graph_target pm_Graph_target cd_Graph_target ct_Graph_target oc_Graph_missing kV_Graph_missing dc_Graph_missing pm_Graph_missing cd_Graph_missing ct_Graph_missing oc_Graph_is_complete kV_Graph_is_complete dc_Graph_is_complete pm_Graph_is_complete cd_Graph_is_complete ct_Graph_is_complete oc_law_agrees kV_law_agrees dc_law_agrees pm_law_agrees cd_law_agrees ct_law_agrees oc_law_actual kV_law_actual dc_law_actual pm_law_actual cd_law_actual ct_law_actual oc_law_errors kV_law_errors dc_law_errors pm_law_errors cd_law_errors ct_law_errors oc_law kV_law dc_law pm_law cd_law ct_law : Value}
    {e_Graph e_InvalidGraph e_InvalidNode e_InvalidNumber e_InvalidPath e_PathError : Addr}
    {tD_Graph___init__ : Addr}
    {tc_Graph___init__ : Value}
    {td_Graph___init__ : Option Addr}
    {tn_Graph___init__ : Nat}
    {ts_Graph___init__ : Array (Option Value)}
    {tk_Graph___init___0 : Tok}
    {te_Graph___init___1 : Addr}
    {t_LETTERS : Tok}
    {t_MAX_NODES : Tok}
    {t_STEPS : Tok}
    (a_law_pool : PySem.W.nsIn K mainGlobals "_law_pool" = some (some (.ref f_law_pool)))
    (a_law_draw : PySem.W.nsIn K mainGlobals "_law_draw" = some (some (.ref f_law_draw)))
    (a_law_edges : PySem.W.nsIn K mainGlobals "_law_edges" = some (some (.ref f_law_edges)))
    (a_is_integer : PySem.W.nsIn K mainGlobals "is_integer" = some (some (.ref f_is_integer)))
    (a_law_back : PySem.W.nsIn K mainGlobals "_law_back" = some (some (.ref f_law_back)))
    (a_law_targets : PySem.W.nsIn K mainGlobals "_law_targets" = some (some (.ref f_law_targets)))
    (a_law_agrees : PySem.W.nsIn K mainGlobals "_law_agrees" = some (some (.ref f_law_agrees)))
    (a_law_actual : PySem.W.nsIn K mainGlobals "_law_actual" = some (some (.ref f_law_actual)))
    (a_law_errors : PySem.W.nsIn K mainGlobals "_law_errors" = some (some (.ref f_law_errors)))
    (a_law : PySem.W.nsIn K mainGlobals "law" = some (some (.ref f_law)))
    (ac_Graph : PySem.W.nsIn K mainGlobals "Graph" = some (some (.ref e_Graph)))
    (ac_InvalidGraph : PySem.W.nsIn K mainGlobals "InvalidGraph" = some (some (.ref e_InvalidGraph)))
    (ac_InvalidNode : PySem.W.nsIn K mainGlobals "InvalidNode" = some (some (.ref e_InvalidNode)))
    (ac_InvalidNumber : PySem.W.nsIn K mainGlobals "InvalidNumber" = some (some (.ref e_InvalidNumber)))
    (ac_InvalidPath : PySem.W.nsIn K mainGlobals "InvalidPath" = some (some (.ref e_InvalidPath)))
    (ac_PathError : PySem.W.nsIn K mainGlobals "PathError" = some (some (.ref e_PathError)))
    (i_InvalidGraph : PySem.W.findIn K (.ref e_InvalidGraph) "__init__" = some (some (.ref f_InvalidGraph___init__)))
    (i_InvalidNode : PySem.W.findIn K (.ref e_InvalidNode) "__init__" = some (some (.ref f_InvalidNode___init__)))
    (i_InvalidNumber : PySem.W.findIn K (.ref e_InvalidNumber) "__init__" = some (some (.ref f_InvalidNumber___init__)))
    (i_InvalidPath : PySem.W.findIn K (.ref e_InvalidPath) "__init__" = some (some (.ref f_InvalidPath___init__)))
    (me_Graph_accepts_p0 : PySem.W.findIn K (.ref e_Graph) "accepts" = some (some (.ref f_Graph_accepts)))
    (me_Graph_follow_p0 : PySem.W.findIn K (.ref e_Graph) "follow" = some (some (.ref f_Graph_follow)))
    (me_Graph_has_node_p0 : PySem.W.findIn K (.ref e_Graph) "has_node" = some (some (.ref f_Graph_has_node)))
    (me_Graph_is_complete_p0 : PySem.W.findIn K (.ref e_Graph) "is_complete" = some (some (.ref f_Graph_is_complete)))
    (me_Graph_missing_p0 : PySem.W.findIn K (.ref e_Graph) "missing" = some (some (.ref f_Graph_missing)))
    (me_Graph_target_p0 : PySem.W.findIn K (.ref e_Graph) "target" = some (some (.ref f_Graph_target)))
    (mk_Graph_p1 : PySem.W.findIn K (.ref e_Graph) "__init__" = some (some (.ref f_Graph___init__)))
    (l_law_pool : K.lookup f_law_pool = some ⟨oc_law_pool, od_law_pool, .func (PySem.W.fnOf "_law_pool" "_law_pool" (defArgs s_law_pool) (defBody s_law_pool) (defScope s_law_pool) .none kV_law_pool dc_law_pool pm_law_pool an_law_pool cd_law_pool ct_law_pool), sl_law_pool⟩)
    (c_law_pool : PySem.W.codeIn K cd_law_pool "_law_pool" = true)
    (k_law_pool : PySem.W.keepIn K (.ref f_law_pool) = true)
    (l_law_draw : K.lookup f_law_draw = some ⟨oc_law_draw, od_law_draw, .func (PySem.W.fnOf "_law_draw" "_law_draw" (defArgs s_law_draw) (defBody s_law_draw) (defScope s_law_draw) .none kV_law_draw dc_law_draw pm_law_draw an_law_draw cd_law_draw ct_law_draw), sl_law_draw⟩)
    (c_law_draw : PySem.W.codeIn K cd_law_draw "_law_draw" = true)
    (k_law_draw : PySem.W.keepIn K (.ref f_law_draw) = true)
    (l_law_edges : K.lookup f_law_edges = some ⟨oc_law_edges, od_law_edges, .func (PySem.W.fnOf "_law_edges" "_law_edges" (defArgs s_law_edges) (defBody s_law_edges) (defScope s_law_edges) .none kV_law_edges dc_law_edges pm_law_edges an_law_edges cd_law_edges ct_law_edges), sl_law_edges⟩)
    (c_law_edges : PySem.W.codeIn K cd_law_edges "_law_edges" = true)
    (k_law_edges : PySem.W.keepIn K (.ref f_law_edges) = true)
    (l_is_integer : K.lookup f_is_integer = some ⟨oc_is_integer, od_is_integer, .func (PySem.W.fnOf "is_integer" "is_integer" (defArgs s_is_integer) (defBody s_is_integer) (defScope s_is_integer) .none kV_is_integer dc_is_integer pm_is_integer an_is_integer cd_is_integer ct_is_integer), sl_is_integer⟩)
    (c_is_integer : PySem.W.codeIn K cd_is_integer "is_integer" = true)
    (k_is_integer : PySem.W.keepIn K (.ref f_is_integer) = true)
    (l_InvalidNumber___init__ : K.lookup f_InvalidNumber___init__ = some ⟨oc_InvalidNumber___init__, od_InvalidNumber___init__, .func (PySem.W.fnOf "__init__" "InvalidNumber.__init__" (defArgs s_InvalidNumber___init__) (defBody s_InvalidNumber___init__) (defScope s_InvalidNumber___init__) .none kV_InvalidNumber___init__ dc_InvalidNumber___init__ pm_InvalidNumber___init__ an_InvalidNumber___init__ cd_InvalidNumber___init__ ct_InvalidNumber___init__), sl_InvalidNumber___init__⟩)
    (c_InvalidNumber___init__ : PySem.W.codeIn K cd_InvalidNumber___init__ "InvalidNumber.__init__" = true)
    (k_InvalidNumber___init__ : PySem.W.keepIn K (.ref f_InvalidNumber___init__) = true)
    (l_InvalidGraph___init__ : K.lookup f_InvalidGraph___init__ = some ⟨oc_InvalidGraph___init__, od_InvalidGraph___init__, .func (PySem.W.fnOf "__init__" "InvalidGraph.__init__" (defArgs s_InvalidGraph___init__) (defBody s_InvalidGraph___init__) (defScope s_InvalidGraph___init__) .none kV_InvalidGraph___init__ dc_InvalidGraph___init__ pm_InvalidGraph___init__ an_InvalidGraph___init__ cd_InvalidGraph___init__ ct_InvalidGraph___init__), sl_InvalidGraph___init__⟩)
    (c_InvalidGraph___init__ : PySem.W.codeIn K cd_InvalidGraph___init__ "InvalidGraph.__init__" = true)
    (k_InvalidGraph___init__ : PySem.W.keepIn K (.ref f_InvalidGraph___init__) = true)
    (l_Graph_has_node : K.lookup f_Graph_has_node = some ⟨oc_Graph_has_node, od_Graph_has_node, .func (PySem.W.fnOf "has_node" "Graph.has_node" (defArgs s_Graph_has_node) (defBody s_Graph_has_node) (defScope s_Graph_has_node) .none kV_Graph_has_node dc_Graph_has_node pm_Graph_has_node an_Graph_has_node cd_Graph_has_node ct_Graph_has_node), sl_Graph_has_node⟩)
    (c_Graph_has_node : PySem.W.codeIn K cd_Graph_has_node "Graph.has_node" = true)
    (k_Graph_has_node : PySem.W.keepIn K (.ref f_Graph_has_node) = true)
    (l_Graph_accepts : K.lookup f_Graph_accepts = some ⟨oc_Graph_accepts, od_Graph_accepts, .func (PySem.W.fnOf "accepts" "Graph.accepts" (defArgs s_Graph_accepts) (defBody s_Graph_accepts) (defScope s_Graph_accepts) .none kV_Graph_accepts dc_Graph_accepts pm_Graph_accepts an_Graph_accepts cd_Graph_accepts ct_Graph_accepts), sl_Graph_accepts⟩)
    (c_Graph_accepts : PySem.W.codeIn K cd_Graph_accepts "Graph.accepts" = true)
    (k_Graph_accepts : PySem.W.keepIn K (.ref f_Graph_accepts) = true)
    (l_Graph___init__ : K.lookup f_Graph___init__ = some ⟨oc_Graph___init__, od_Graph___init__, .func (PySem.W.fnOf "__init__" "Graph.__init__" (defArgs s_Graph___init__) (defBody s_Graph___init__) (defScope s_Graph___init__) (.ref tD_Graph___init__) kV_Graph___init__ dc_Graph___init__ pm_Graph___init__ an_Graph___init__ cd_Graph___init__ ct_Graph___init__), sl_Graph___init__⟩)
    (u_Graph___init__ : K.lookup tD_Graph___init__ = some ⟨tc_Graph___init__, td_Graph___init__, .seq #[.int 1 tk_Graph___init___0, .ref te_Graph___init___1] tn_Graph___init__, ts_Graph___init__⟩)
    (c_Graph___init__ : PySem.W.codeIn K cd_Graph___init__ "Graph.__init__" = true)
    (k_Graph___init__ : PySem.W.keepIn K (.ref f_Graph___init__) = true)
    (l_law_back : K.lookup f_law_back = some ⟨oc_law_back, od_law_back, .func (PySem.W.fnOf "_law_back" "_law_back" (defArgs s_law_back) (defBody s_law_back) (defScope s_law_back) .none kV_law_back dc_law_back pm_law_back an_law_back cd_law_back ct_law_back), sl_law_back⟩)
    (c_law_back : PySem.W.codeIn K cd_law_back "_law_back" = true)
    (k_law_back : PySem.W.keepIn K (.ref f_law_back) = true)
    (l_law_targets : K.lookup f_law_targets = some ⟨oc_law_targets, od_law_targets, .func (PySem.W.fnOf "_law_targets" "_law_targets" (defArgs s_law_targets) (defBody s_law_targets) (defScope s_law_targets) .none kV_law_targets dc_law_targets pm_law_targets an_law_targets cd_law_targets ct_law_targets), sl_law_targets⟩)
    (c_law_targets : PySem.W.codeIn K cd_law_targets "_law_targets" = true)
    (k_law_targets : PySem.W.keepIn K (.ref f_law_targets) = true)
    (l_InvalidNode___init__ : K.lookup f_InvalidNode___init__ = some ⟨oc_InvalidNode___init__, od_InvalidNode___init__, .func (PySem.W.fnOf "__init__" "InvalidNode.__init__" (defArgs s_InvalidNode___init__) (defBody s_InvalidNode___init__) (defScope s_InvalidNode___init__) .none kV_InvalidNode___init__ dc_InvalidNode___init__ pm_InvalidNode___init__ an_InvalidNode___init__ cd_InvalidNode___init__ ct_InvalidNode___init__), sl_InvalidNode___init__⟩)
    (c_InvalidNode___init__ : PySem.W.codeIn K cd_InvalidNode___init__ "InvalidNode.__init__" = true)
    (k_InvalidNode___init__ : PySem.W.keepIn K (.ref f_InvalidNode___init__) = true)
    (l_InvalidPath___init__ : K.lookup f_InvalidPath___init__ = some ⟨oc_InvalidPath___init__, od_InvalidPath___init__, .func (PySem.W.fnOf "__init__" "InvalidPath.__init__" (defArgs s_InvalidPath___init__) (defBody s_InvalidPath___init__) (defScope s_InvalidPath___init__) .none kV_InvalidPath___init__ dc_InvalidPath___init__ pm_InvalidPath___init__ an_InvalidPath___init__ cd_InvalidPath___init__ ct_InvalidPath___init__), sl_InvalidPath___init__⟩)
    (c_InvalidPath___init__ : PySem.W.codeIn K cd_InvalidPath___init__ "InvalidPath.__init__" = true)
    (k_InvalidPath___init__ : PySem.W.keepIn K (.ref f_InvalidPath___init__) = true)
    (l_Graph_follow : K.lookup f_Graph_follow = some ⟨oc_Graph_follow, od_Graph_follow, .func (PySem.W.fnOf "follow" "Graph.follow" (defArgs s_Graph_follow) (defBody s_Graph_follow) (defScope s_Graph_follow) .none kV_Graph_follow dc_Graph_follow pm_Graph_follow an_Graph_follow cd_Graph_follow ct_Graph_follow), sl_Graph_follow⟩)
    (c_Graph_follow : PySem.W.codeIn K cd_Graph_follow "Graph.follow" = true)
    (k_Graph_follow : PySem.W.keepIn K (.ref f_Graph_follow) = true)
    (l_Graph_target : K.lookup f_Graph_target = some ⟨oc_Graph_target, od_Graph_target, .func (PySem.W.fnOf "target" "Graph.target" (defArgs s_Graph_target) (defBody s_Graph_target) (defScope s_Graph_target) .none kV_Graph_target dc_Graph_target pm_Graph_target an_Graph_target cd_Graph_target ct_Graph_target), sl_Graph_target⟩)
    (c_Graph_target : PySem.W.codeIn K cd_Graph_target "Graph.target" = true)
    (k_Graph_target : PySem.W.keepIn K (.ref f_Graph_target) = true)
    (l_Graph_missing : K.lookup f_Graph_missing = some ⟨oc_Graph_missing, od_Graph_missing, .func (PySem.W.fnOf "missing" "Graph.missing" (defArgs s_Graph_missing) (defBody s_Graph_missing) (defScope s_Graph_missing) .none kV_Graph_missing dc_Graph_missing pm_Graph_missing an_Graph_missing cd_Graph_missing ct_Graph_missing), sl_Graph_missing⟩)
    (c_Graph_missing : PySem.W.codeIn K cd_Graph_missing "Graph.missing" = true)
    (k_Graph_missing : PySem.W.keepIn K (.ref f_Graph_missing) = true)
    (l_Graph_is_complete : K.lookup f_Graph_is_complete = some ⟨oc_Graph_is_complete, od_Graph_is_complete, .func (PySem.W.fnOf "is_complete" "Graph.is_complete" (defArgs s_Graph_is_complete) (defBody s_Graph_is_complete) (defScope s_Graph_is_complete) .none kV_Graph_is_complete dc_Graph_is_complete pm_Graph_is_complete an_Graph_is_complete cd_Graph_is_complete ct_Graph_is_complete), sl_Graph_is_complete⟩)
    (c_Graph_is_complete : PySem.W.codeIn K cd_Graph_is_complete "Graph.is_complete" = true)
    (k_Graph_is_complete : PySem.W.keepIn K (.ref f_Graph_is_complete) = true)
    (l_law_agrees : K.lookup f_law_agrees = some ⟨oc_law_agrees, od_law_agrees, .func (PySem.W.fnOf "_law_agrees" "_law_agrees" (defArgs s_law_agrees) (defBody s_law_agrees) (defScope s_law_agrees) .none kV_law_agrees dc_law_agrees pm_law_agrees an_law_agrees cd_law_agrees ct_law_agrees), sl_law_agrees⟩)
    (c_law_agrees : PySem.W.codeIn K cd_law_agrees "_law_agrees" = true)
    (k_law_agrees : PySem.W.keepIn K (.ref f_law_agrees) = true)
    (l_law_actual : K.lookup f_law_actual = some ⟨oc_law_actual, od_law_actual, .func (PySem.W.fnOf "_law_actual" "_law_actual" (defArgs s_law_actual) (defBody s_law_actual) (defScope s_law_actual) .none kV_law_actual dc_law_actual pm_law_actual an_law_actual cd_law_actual ct_law_actual), sl_law_actual⟩)
    (c_law_actual : PySem.W.codeIn K cd_law_actual "_law_actual" = true)
    (k_law_actual : PySem.W.keepIn K (.ref f_law_actual) = true)
    (l_law_errors : K.lookup f_law_errors = some ⟨oc_law_errors, od_law_errors, .func (PySem.W.fnOf "_law_errors" "_law_errors" (defArgs s_law_errors) (defBody s_law_errors) (defScope s_law_errors) .none kV_law_errors dc_law_errors pm_law_errors an_law_errors cd_law_errors ct_law_errors), sl_law_errors⟩)
    (c_law_errors : PySem.W.codeIn K cd_law_errors "_law_errors" = true)
    (k_law_errors : PySem.W.keepIn K (.ref f_law_errors) = true)
    (l_law : K.lookup f_law = some ⟨oc_law, od_law, .func (PySem.W.fnOf "law" "law" (defArgs s_law) (defBody s_law) (defScope s_law) .none kV_law dc_law pm_law an_law cd_law ct_law), sl_law⟩)
    (c_law : PySem.W.codeIn K cd_law "law" = true)
    (k_law : PySem.W.keepIn K (.ref f_law) = true)
    (n_LETTERS : PySem.W.nsIn K mainGlobals "LETTERS" = some (some (.str "abcd" t_LETTERS)))
    (n_MAX_NODES : PySem.W.nsIn K mainGlobals "MAX_NODES" = some (some (.int 2000 t_MAX_NODES)))
    (n_STEPS : PySem.W.nsIn K mainGlobals "STEPS" = some (some (.str "aAbBcCdD" t_STEPS)))
    (z_IndexError : PySem.W.nsIn K mainGlobals "IndexError" = some none)
    (z_ValueError : PySem.W.nsIn K mainGlobals "ValueError" = some none)
    (z_bool : PySem.W.nsIn K mainGlobals "bool" = some none)
    (z_enumerate : PySem.W.nsIn K mainGlobals "enumerate" = some none)
    (z_int : PySem.W.nsIn K mainGlobals "int" = some none)
    (z_isinstance : PySem.W.nsIn K mainGlobals "isinstance" = some none)
    (z_len : PySem.W.nsIn K mainGlobals "len" = some none)
    (z_list : PySem.W.nsIn K mainGlobals "list" = some none)
    (z_max : PySem.W.nsIn K mainGlobals "max" = some none)
    (z_min : PySem.W.nsIn K mainGlobals "min" = some none)
    (z_range : PySem.W.nsIn K mainGlobals "range" = some none)
    (z_repr : PySem.W.nsIn K mainGlobals "repr" = some none)
    (z_str : PySem.W.nsIn K mainGlobals "str" = some none)
    (z_tuple : PySem.W.nsIn K mainGlobals "tuple" = some none)
    (x_InvalidGraph_im : PySem.W.excInitIn K e_InvalidGraph [.type "ValueError", .type "Exception", .type "BaseException", .type "object"] "ValueError.__new__" = true)
    (x_InvalidGraph_ov : PySem.W.excOver K e_InvalidGraph [.type "ValueError", .type "Exception", .type "BaseException", .type "object"] = true)
    (x_InvalidGraph_hd : PySem.W.hasDictIn K e_InvalidGraph = true)
    (x_InvalidGraph_sa : PySem.W.findIn K (.ref e_InvalidGraph) "__setattr__" = some (some (.builtin "object.__setattr__")))
    (x_InvalidGraph_ga : PySem.W.findIn K (.ref e_InvalidGraph) "__getattribute__" = some (some (.builtin "BaseException.__getattribute__")))
    (x_InvalidGraph_gg : PySem.W.findIn K (.ref e_InvalidGraph) "__getattr__" = some none)
    (x_InvalidGraph_exC : PySem.W.subIn K (.ref e_InvalidGraph) (.type "BaseException") = some true)
    (x_InvalidGraph_tyC : PySem.W.typeIn K (.ref e_InvalidGraph) = some (.type "type"))
    (x_InvalidGraph_kC : PySem.W.keepIn K (.ref e_InvalidGraph) = true)
    (x_InvalidGraph_cl : PySem.W.findIn K (.ref e_InvalidGraph) "__class__" = some (some (.builtin "object.__class__")))
    (x_InvalidGraph_gs : PySem.W.specialIn K (.builtin "object.__class__") "__get__" = some (some (.builtin "getset_descriptor.__get__")))
    (x_InvalidGraph_tk : PySem.W.takesIn K (.builtin "object.__class__") = some true)
    (x_InvalidGraph_mo : PySem.W.mroIn K e_InvalidGraph (.type "object") = some true)
    (x_InvalidNode_im : PySem.W.excInitIn K e_InvalidNode [.type "IndexError", .type "LookupError", .type "Exception", .type "BaseException", .type "object"] "IndexError.__new__" = true)
    (x_InvalidNode_ov : PySem.W.excOver K e_InvalidNode [.type "IndexError", .type "LookupError", .type "Exception", .type "BaseException", .type "object"] = true)
    (x_InvalidNode_hd : PySem.W.hasDictIn K e_InvalidNode = true)
    (x_InvalidNode_sa : PySem.W.findIn K (.ref e_InvalidNode) "__setattr__" = some (some (.builtin "object.__setattr__")))
    (x_InvalidNode_ga : PySem.W.findIn K (.ref e_InvalidNode) "__getattribute__" = some (some (.builtin "BaseException.__getattribute__")))
    (x_InvalidNode_gg : PySem.W.findIn K (.ref e_InvalidNode) "__getattr__" = some none)
    (x_InvalidNode_exC : PySem.W.subIn K (.ref e_InvalidNode) (.type "BaseException") = some true)
    (x_InvalidNode_tyC : PySem.W.typeIn K (.ref e_InvalidNode) = some (.type "type"))
    (x_InvalidNode_kC : PySem.W.keepIn K (.ref e_InvalidNode) = true)
    (x_InvalidNode_cl : PySem.W.findIn K (.ref e_InvalidNode) "__class__" = some (some (.builtin "object.__class__")))
    (x_InvalidNode_gs : PySem.W.specialIn K (.builtin "object.__class__") "__get__" = some (some (.builtin "getset_descriptor.__get__")))
    (x_InvalidNode_tk : PySem.W.takesIn K (.builtin "object.__class__") = some true)
    (x_InvalidNode_mo : PySem.W.mroIn K e_InvalidNode (.type "object") = some true)
    (x_InvalidNumber_im : PySem.W.excInitIn K e_InvalidNumber [.type "ValueError", .type "Exception", .type "BaseException", .type "object"] "ValueError.__new__" = true)
    (x_InvalidNumber_ov : PySem.W.excOver K e_InvalidNumber [.type "ValueError", .type "Exception", .type "BaseException", .type "object"] = true)
    (x_InvalidNumber_hd : PySem.W.hasDictIn K e_InvalidNumber = true)
    (x_InvalidNumber_sa : PySem.W.findIn K (.ref e_InvalidNumber) "__setattr__" = some (some (.builtin "object.__setattr__")))
    (x_InvalidNumber_ga : PySem.W.findIn K (.ref e_InvalidNumber) "__getattribute__" = some (some (.builtin "BaseException.__getattribute__")))
    (x_InvalidNumber_gg : PySem.W.findIn K (.ref e_InvalidNumber) "__getattr__" = some none)
    (x_InvalidNumber_exC : PySem.W.subIn K (.ref e_InvalidNumber) (.type "BaseException") = some true)
    (x_InvalidNumber_tyC : PySem.W.typeIn K (.ref e_InvalidNumber) = some (.type "type"))
    (x_InvalidNumber_kC : PySem.W.keepIn K (.ref e_InvalidNumber) = true)
    (x_InvalidNumber_cl : PySem.W.findIn K (.ref e_InvalidNumber) "__class__" = some (some (.builtin "object.__class__")))
    (x_InvalidNumber_gs : PySem.W.specialIn K (.builtin "object.__class__") "__get__" = some (some (.builtin "getset_descriptor.__get__")))
    (x_InvalidNumber_tk : PySem.W.takesIn K (.builtin "object.__class__") = some true)
    (x_InvalidNumber_mo : PySem.W.mroIn K e_InvalidNumber (.type "object") = some true)
    (x_InvalidPath_im : PySem.W.excInitIn K e_InvalidPath [.type "ValueError", .type "Exception", .type "BaseException", .type "object"] "ValueError.__new__" = true)
    (x_InvalidPath_ov : PySem.W.excOver K e_InvalidPath [.type "ValueError", .type "Exception", .type "BaseException", .type "object"] = true)
    (x_InvalidPath_hd : PySem.W.hasDictIn K e_InvalidPath = true)
    (x_InvalidPath_sa : PySem.W.findIn K (.ref e_InvalidPath) "__setattr__" = some (some (.builtin "object.__setattr__")))
    (x_InvalidPath_ga : PySem.W.findIn K (.ref e_InvalidPath) "__getattribute__" = some (some (.builtin "BaseException.__getattribute__")))
    (x_InvalidPath_gg : PySem.W.findIn K (.ref e_InvalidPath) "__getattr__" = some none)
    (x_InvalidPath_exC : PySem.W.subIn K (.ref e_InvalidPath) (.type "BaseException") = some true)
    (x_InvalidPath_tyC : PySem.W.typeIn K (.ref e_InvalidPath) = some (.type "type"))
    (x_InvalidPath_kC : PySem.W.keepIn K (.ref e_InvalidPath) = true)
    (x_InvalidPath_cl : PySem.W.findIn K (.ref e_InvalidPath) "__class__" = some (some (.builtin "object.__class__")))
    (x_InvalidPath_gs : PySem.W.specialIn K (.builtin "object.__class__") "__get__" = some (some (.builtin "getset_descriptor.__get__")))
    (x_InvalidPath_tk : PySem.W.takesIn K (.builtin "object.__class__") = some true)
    (x_InvalidPath_mo : PySem.W.mroIn K e_InvalidPath (.type "object") = some true)
    (t_InvalidGraph : PySem.W.typeIn K (.ref f_InvalidGraph___init__) = some (.type "function"))
    (t_InvalidNode : PySem.W.typeIn K (.ref f_InvalidNode___init__) = some (.type "function"))
    (t_InvalidNumber : PySem.W.typeIn K (.ref f_InvalidNumber___init__) = some (.type "function"))
    (t_InvalidPath : PySem.W.typeIn K (.ref f_InvalidPath___init__) = some (.type "function"))
    (n_InvalidGraph_index : PySem.W.findIn K (.ref e_InvalidGraph) "index" = some none)
    (n_InvalidNode_value : PySem.W.findIn K (.ref e_InvalidNode) "value" = some none)
    (n_InvalidNumber_value : PySem.W.findIn K (.ref e_InvalidNumber) "value" = some none)
    (n_InvalidPath_value : PySem.W.findIn K (.ref e_InvalidPath) "value" = some none)
    (v_IndexError : PySem.W.findCls K (.type "IndexError") (.type "type") "__init__" = some (.val (.builtin "IndexError.__init__")))
    (s_PathError : PySem.W.specialIn K (.ref e_PathError) "__getattribute__" = some (some (.builtin "type.__getattribute__")))
    (r_PathError : PySem.W.readsIn K e_PathError (.type "type") = true)
    (v_PathError : PySem.W.findCls K (.ref e_PathError) (.type "type") "__init__" = some (.val (.builtin "ValueError.__init__")))
    (ko_InvalidNode_IndexError : PySem.W.kitOne K (.ref e_InvalidNode) (.type "IndexError") = some true)
    (ko_InvalidNode_PathError : PySem.W.kitOne K (.ref e_InvalidNode) (.ref e_PathError) = some false)
    (ko_InvalidPath_PathError : PySem.W.kitOne K (.ref e_InvalidPath) (.ref e_PathError) = some true)
    (ko_InvalidPath_ValueError : PySem.W.kitOne K (.ref e_InvalidPath) (.type "ValueError") = some true)
    (cl_Graph_p0 : PySem.W.plainGet K e_Graph Str.empty = true)
    (cl_Graph_p1 : PySem.W.hasDictIn K e_Graph = true)
    (cl_Graph_p2 : PySem.W.plainOver K e_Graph = true)
    (cl_Graph_p3 : PySem.W.findIn K (.ref e_Graph) "__setattr__" = some (some (.builtin "object.__setattr__")))
    (me_Graph_accepts_p1 : PySem.W.isFn K (.ref f_Graph_accepts) = true)
    (me_Graph_accepts_p2 : PySem.W.keepIn K (.ref f_Graph_accepts) = true)
    (me_Graph_follow_p1 : PySem.W.isFn K (.ref f_Graph_follow) = true)
    (me_Graph_follow_p2 : PySem.W.keepIn K (.ref f_Graph_follow) = true)
    (me_Graph_has_node_p1 : PySem.W.isFn K (.ref f_Graph_has_node) = true)
    (me_Graph_has_node_p2 : PySem.W.keepIn K (.ref f_Graph_has_node) = true)
    (me_Graph_is_complete_p1 : PySem.W.isFn K (.ref f_Graph_is_complete) = true)
    (me_Graph_is_complete_p2 : PySem.W.keepIn K (.ref f_Graph_is_complete) = true)
    (me_Graph_missing_p1 : PySem.W.isFn K (.ref f_Graph_missing) = true)
    (me_Graph_missing_p2 : PySem.W.keepIn K (.ref f_Graph_missing) = true)
    (me_Graph_target_p1 : PySem.W.isFn K (.ref f_Graph_target) = true)
    (me_Graph_target_p2 : PySem.W.keepIn K (.ref f_Graph_target) = true)
    (mk_Graph_p0 : PySem.W.makesIn K e_Graph = true)
    (mk_Graph_p2 : PySem.W.isFn K (.ref f_Graph___init__) = true)
    (mk_Graph_p3 : PySem.W.keepIn K (.ref e_Graph) = true)
    (na_Graph_node_count : PySem.W.findIn K (.ref e_Graph) "node_count" = some none)
    (na_Graph_targets : PySem.W.findIn K (.ref e_Graph) "targets" = some none)
    (sb_InvalidNode_InvalidNode : PySem.W.subIn K (.ref e_InvalidNode) (.ref e_InvalidNode) = some true)
    (sb_InvalidNode_InvalidPath : PySem.W.subIn K (.ref e_InvalidNode) (.ref e_InvalidPath) = some false)
    (sb_InvalidPath_InvalidNode : PySem.W.subIn K (.ref e_InvalidPath) (.ref e_InvalidNode) = some false)
    (sb_InvalidPath_InvalidPath : PySem.W.subIn K (.ref e_InvalidPath) (.ref e_InvalidPath) = some true) :
    ∃ fd : FuncData, (∀ (s : Shared) (v : Value), BindsTo s fd ⟨[v], []⟩ [("_law_script", v)]) ∧ ∀ base : Heap, K.In base → base.Ns mainGlobals mg → FnG l.prog w K mg base (L2.CX l.prog w) 6 fa fd ["_law_script"] (sp_law K) := by
  have e := hfa.symm.trans (PySem.W.mg_of X G a_law)
  cases e
  have T : Txt K mg ⟨f_law_pool, PySem.W.fnOf "_law_pool" "_law_pool" (defArgs s_law_pool) (defBody s_law_pool) (defScope s_law_pool) .none kV_law_pool dc_law_pool pm_law_pool an_law_pool cd_law_pool ct_law_pool, f_law_draw, PySem.W.fnOf "_law_draw" "_law_draw" (defArgs s_law_draw) (defBody s_law_draw) (defScope s_law_draw) .none kV_law_draw dc_law_draw pm_law_draw an_law_draw cd_law_draw ct_law_draw, f_law_edges, PySem.W.fnOf "_law_edges" "_law_edges" (defArgs s_law_edges) (defBody s_law_edges) (defScope s_law_edges) .none kV_law_edges dc_law_edges pm_law_edges an_law_edges cd_law_edges ct_law_edges, f_is_integer, PySem.W.fnOf "is_integer" "is_integer" (defArgs s_is_integer) (defBody s_is_integer) (defScope s_is_integer) .none kV_is_integer dc_is_integer pm_is_integer an_is_integer cd_is_integer ct_is_integer, f_InvalidNumber___init__, PySem.W.fnOf "__init__" "InvalidNumber.__init__" (defArgs s_InvalidNumber___init__) (defBody s_InvalidNumber___init__) (defScope s_InvalidNumber___init__) .none kV_InvalidNumber___init__ dc_InvalidNumber___init__ pm_InvalidNumber___init__ an_InvalidNumber___init__ cd_InvalidNumber___init__ ct_InvalidNumber___init__, f_InvalidGraph___init__, PySem.W.fnOf "__init__" "InvalidGraph.__init__" (defArgs s_InvalidGraph___init__) (defBody s_InvalidGraph___init__) (defScope s_InvalidGraph___init__) .none kV_InvalidGraph___init__ dc_InvalidGraph___init__ pm_InvalidGraph___init__ an_InvalidGraph___init__ cd_InvalidGraph___init__ ct_InvalidGraph___init__, f_Graph_has_node, PySem.W.fnOf "has_node" "Graph.has_node" (defArgs s_Graph_has_node) (defBody s_Graph_has_node) (defScope s_Graph_has_node) .none kV_Graph_has_node dc_Graph_has_node pm_Graph_has_node an_Graph_has_node cd_Graph_has_node ct_Graph_has_node, f_Graph_accepts, PySem.W.fnOf "accepts" "Graph.accepts" (defArgs s_Graph_accepts) (defBody s_Graph_accepts) (defScope s_Graph_accepts) .none kV_Graph_accepts dc_Graph_accepts pm_Graph_accepts an_Graph_accepts cd_Graph_accepts ct_Graph_accepts, f_Graph___init__, PySem.W.fnOf "__init__" "Graph.__init__" (defArgs s_Graph___init__) (defBody s_Graph___init__) (defScope s_Graph___init__) (.ref tD_Graph___init__) kV_Graph___init__ dc_Graph___init__ pm_Graph___init__ an_Graph___init__ cd_Graph___init__ ct_Graph___init__, f_law_back, PySem.W.fnOf "_law_back" "_law_back" (defArgs s_law_back) (defBody s_law_back) (defScope s_law_back) .none kV_law_back dc_law_back pm_law_back an_law_back cd_law_back ct_law_back, f_law_targets, PySem.W.fnOf "_law_targets" "_law_targets" (defArgs s_law_targets) (defBody s_law_targets) (defScope s_law_targets) .none kV_law_targets dc_law_targets pm_law_targets an_law_targets cd_law_targets ct_law_targets, f_InvalidNode___init__, PySem.W.fnOf "__init__" "InvalidNode.__init__" (defArgs s_InvalidNode___init__) (defBody s_InvalidNode___init__) (defScope s_InvalidNode___init__) .none kV_InvalidNode___init__ dc_InvalidNode___init__ pm_InvalidNode___init__ an_InvalidNode___init__ cd_InvalidNode___init__ ct_InvalidNode___init__, f_InvalidPath___init__, PySem.W.fnOf "__init__" "InvalidPath.__init__" (defArgs s_InvalidPath___init__) (defBody s_InvalidPath___init__) (defScope s_InvalidPath___init__) .none kV_InvalidPath___init__ dc_InvalidPath___init__ pm_InvalidPath___init__ an_InvalidPath___init__ cd_InvalidPath___init__ ct_InvalidPath___init__, f_Graph_follow, PySem.W.fnOf "follow" "Graph.follow" (defArgs s_Graph_follow) (defBody s_Graph_follow) (defScope s_Graph_follow) .none kV_Graph_follow dc_Graph_follow pm_Graph_follow an_Graph_follow cd_Graph_follow ct_Graph_follow, f_Graph_target, PySem.W.fnOf "target" "Graph.target" (defArgs s_Graph_target) (defBody s_Graph_target) (defScope s_Graph_target) .none kV_Graph_target dc_Graph_target pm_Graph_target an_Graph_target cd_Graph_target ct_Graph_target, f_Graph_missing, PySem.W.fnOf "missing" "Graph.missing" (defArgs s_Graph_missing) (defBody s_Graph_missing) (defScope s_Graph_missing) .none kV_Graph_missing dc_Graph_missing pm_Graph_missing an_Graph_missing cd_Graph_missing ct_Graph_missing, f_Graph_is_complete, PySem.W.fnOf "is_complete" "Graph.is_complete" (defArgs s_Graph_is_complete) (defBody s_Graph_is_complete) (defScope s_Graph_is_complete) .none kV_Graph_is_complete dc_Graph_is_complete pm_Graph_is_complete an_Graph_is_complete cd_Graph_is_complete ct_Graph_is_complete, f_law_agrees, PySem.W.fnOf "_law_agrees" "_law_agrees" (defArgs s_law_agrees) (defBody s_law_agrees) (defScope s_law_agrees) .none kV_law_agrees dc_law_agrees pm_law_agrees an_law_agrees cd_law_agrees ct_law_agrees, f_law_actual, PySem.W.fnOf "_law_actual" "_law_actual" (defArgs s_law_actual) (defBody s_law_actual) (defScope s_law_actual) .none kV_law_actual dc_law_actual pm_law_actual an_law_actual cd_law_actual ct_law_actual, f_law_errors, PySem.W.fnOf "_law_errors" "_law_errors" (defArgs s_law_errors) (defBody s_law_errors) (defScope s_law_errors) .none kV_law_errors dc_law_errors pm_law_errors an_law_errors cd_law_errors ct_law_errors, fa, PySem.W.fnOf "law" "law" (defArgs s_law) (defBody s_law) (defScope s_law) .none kV_law dc_law pm_law an_law cd_law ct_law, e_Graph, e_InvalidGraph, e_InvalidNode, e_InvalidNumber, e_InvalidPath, e_PathError⟩ := {
    g_Graph := PySem.W.mg_of X G ac_Graph
    g_InvalidGraph := PySem.W.mg_of X G ac_InvalidGraph
    g_InvalidNode := PySem.W.mg_of X G ac_InvalidNode
    g_InvalidNumber := PySem.W.mg_of X G ac_InvalidNumber
    g_InvalidPath := PySem.W.mg_of X G ac_InvalidPath
    g_PathError := PySem.W.mg_of X G ac_PathError
    i_InvalidGraph := i_InvalidGraph
    i_InvalidNode := i_InvalidNode
    i_InvalidNumber := i_InvalidNumber
    i_InvalidPath := i_InvalidPath
    f_law_pool := fun_mk (st := s_law_pool) l_law_pool c_law_pool k_law_pool
    g_law_pool := PySem.W.mg_of X G a_law_pool
    b_law_pool := (fun_mk (st := s_law_pool) l_law_pool c_law_pool k_law_pool).binds (ps := ["_law_script", "_law_index"]) fun _ _ _ _ _ _ us hl => match us, hl with | [_, _], _ => rfl
    f_law_draw := fun_mk (st := s_law_draw) l_law_draw c_law_draw k_law_draw
    g_law_draw := PySem.W.mg_of X G a_law_draw
    b_law_draw := (fun_mk (st := s_law_draw) l_law_draw c_law_draw k_law_draw).binds (ps := ["_law_pool_here", "_law_bound"]) fun _ _ _ _ _ _ us hl => match us, hl with | [_, _], _ => rfl
    f_law_edges := fun_mk (st := s_law_edges) l_law_edges c_law_edges k_law_edges
    g_law_edges := PySem.W.mg_of X G a_law_edges
    b_law_edges := (fun_mk (st := s_law_edges) l_law_edges c_law_edges k_law_edges).binds (ps := ["_law_pool_here", "_law_size"]) fun _ _ _ _ _ _ us hl => match us, hl with | [_, _], _ => rfl
    f_is_integer := fun_mk (st := s_is_integer) l_is_integer c_is_integer k_is_integer
    g_is_integer := PySem.W.mg_of X G a_is_integer
    b_is_integer := (fun_mk (st := s_is_integer) l_is_integer c_is_integer k_is_integer).binds (ps := ["value"]) fun _ _ _ _ _ _ us hl => match us, hl with | [_], _ => rfl
    f_InvalidNumber___init__ := fun_mk (st := s_InvalidNumber___init__) l_InvalidNumber___init__ c_InvalidNumber___init__ k_InvalidNumber___init__
    b_InvalidNumber___init__ := (fun_mk (st := s_InvalidNumber___init__) l_InvalidNumber___init__ c_InvalidNumber___init__ k_InvalidNumber___init__).binds (ps := ["self", "value"]) fun _ _ _ _ _ _ us hl => match us, hl with | [_, _], _ => rfl
    f_InvalidGraph___init__ := fun_mk (st := s_InvalidGraph___init__) l_InvalidGraph___init__ c_InvalidGraph___init__ k_InvalidGraph___init__
    b_InvalidGraph___init__ := (fun_mk (st := s_InvalidGraph___init__) l_InvalidGraph___init__ c_InvalidGraph___init__ k_InvalidGraph___init__).binds (ps := ["self", "index"]) fun _ _ _ _ _ _ us hl => match us, hl with | [_, _], _ => rfl
    f_Graph_has_node := fun_mk (st := s_Graph_has_node) l_Graph_has_node c_Graph_has_node k_Graph_has_node
    b_Graph_has_node := (fun_mk (st := s_Graph_has_node) l_Graph_has_node c_Graph_has_node k_Graph_has_node).binds (ps := ["self", "value"]) fun _ _ _ _ _ _ us hl => match us, hl with | [_, _], _ => rfl
    f_Graph_accepts := fun_mk (st := s_Graph_accepts) l_Graph_accepts c_Graph_accepts k_Graph_accepts
    b_Graph_accepts := (fun_mk (st := s_Graph_accepts) l_Graph_accepts c_Graph_accepts k_Graph_accepts).binds (ps := ["self", "edge"]) fun _ _ _ _ _ _ us hl => match us, hl with | [_, _], _ => rfl
    f_Graph___init__ := funV_mk (st := s_Graph___init__) l_Graph___init__ c_Graph___init__ k_Graph___init__
    f_law_back := fun_mk (st := s_law_back) l_law_back c_law_back k_law_back
    g_law_back := PySem.W.mg_of X G a_law_back
    b_law_back := (fun_mk (st := s_law_back) l_law_back c_law_back k_law_back).binds (ps := ["_law_step"]) fun _ _ _ _ _ _ us hl => match us, hl with | [_], _ => rfl
    f_law_targets := fun_mk (st := s_law_targets) l_law_targets c_law_targets k_law_targets
    g_law_targets := PySem.W.mg_of X G a_law_targets
    b_law_targets := (fun_mk (st := s_law_targets) l_law_targets c_law_targets k_law_targets).binds (ps := ["_law_edges_here"]) fun _ _ _ _ _ _ us hl => match us, hl with | [_], _ => rfl
    f_InvalidNode___init__ := fun_mk (st := s_InvalidNode___init__) l_InvalidNode___init__ c_InvalidNode___init__ k_InvalidNode___init__
    b_InvalidNode___init__ := (fun_mk (st := s_InvalidNode___init__) l_InvalidNode___init__ c_InvalidNode___init__ k_InvalidNode___init__).binds (ps := ["self", "value"]) fun _ _ _ _ _ _ us hl => match us, hl with | [_, _], _ => rfl
    f_InvalidPath___init__ := fun_mk (st := s_InvalidPath___init__) l_InvalidPath___init__ c_InvalidPath___init__ k_InvalidPath___init__
    b_InvalidPath___init__ := (fun_mk (st := s_InvalidPath___init__) l_InvalidPath___init__ c_InvalidPath___init__ k_InvalidPath___init__).binds (ps := ["self", "value"]) fun _ _ _ _ _ _ us hl => match us, hl with | [_, _], _ => rfl
    f_Graph_follow := fun_mk (st := s_Graph_follow) l_Graph_follow c_Graph_follow k_Graph_follow
    b_Graph_follow := (fun_mk (st := s_Graph_follow) l_Graph_follow c_Graph_follow k_Graph_follow).binds (ps := ["self", "node", "step"]) fun _ _ _ _ _ _ us hl => match us, hl with | [_, _, _], _ => rfl
    f_Graph_target := fun_mk (st := s_Graph_target) l_Graph_target c_Graph_target k_Graph_target
    b_Graph_target := (fun_mk (st := s_Graph_target) l_Graph_target c_Graph_target k_Graph_target).binds (ps := ["self", "node", "step"]) fun _ _ _ _ _ _ us hl => match us, hl with | [_, _, _], _ => rfl
    f_Graph_missing := fun_mk (st := s_Graph_missing) l_Graph_missing c_Graph_missing k_Graph_missing
    b_Graph_missing := (fun_mk (st := s_Graph_missing) l_Graph_missing c_Graph_missing k_Graph_missing).binds (ps := ["self"]) fun _ _ _ _ _ _ us hl => match us, hl with | [_], _ => rfl
    f_Graph_is_complete := fun_mk (st := s_Graph_is_complete) l_Graph_is_complete c_Graph_is_complete k_Graph_is_complete
    b_Graph_is_complete := (fun_mk (st := s_Graph_is_complete) l_Graph_is_complete c_Graph_is_complete k_Graph_is_complete).binds (ps := ["self"]) fun _ _ _ _ _ _ us hl => match us, hl with | [_], _ => rfl
    f_law_agrees := fun_mk (st := s_law_agrees) l_law_agrees c_law_agrees k_law_agrees
    g_law_agrees := PySem.W.mg_of X G a_law_agrees
    b_law_agrees := (fun_mk (st := s_law_agrees) l_law_agrees c_law_agrees k_law_agrees).binds (ps := ["_law_graph", "_law_targets_here", "_law_size"]) fun _ _ _ _ _ _ us hl => match us, hl with | [_, _, _], _ => rfl
    f_law_actual := fun_mk (st := s_law_actual) l_law_actual c_law_actual k_law_actual
    g_law_actual := PySem.W.mg_of X G a_law_actual
    b_law_actual := (fun_mk (st := s_law_actual) l_law_actual c_law_actual k_law_actual).binds (ps := ["_law_graph", "_law_node", "_law_step"]) fun _ _ _ _ _ _ us hl => match us, hl with | [_, _, _], _ => rfl
    f_law_errors := fun_mk (st := s_law_errors) l_law_errors c_law_errors k_law_errors
    g_law_errors := PySem.W.mg_of X G a_law_errors
    b_law_errors := (fun_mk (st := s_law_errors) l_law_errors c_law_errors k_law_errors).binds (ps := ["_law_graph", "_law_size"]) fun _ _ _ _ _ _ us hl => match us, hl with | [_, _], _ => rfl
    f_law := fun_mk (st := s_law) l_law c_law k_law
    g_law := PySem.W.mg_of X G a_law
    b_law := (fun_mk (st := s_law) l_law c_law k_law).binds (ps := ["_law_script"]) fun _ _ _ _ _ _ us hl => match us, hl with | [_], _ => rfl
    kb_Graph___init___2_ := ⟨kg_Graph___init___2_, fun s u us ws X hl => (match us, ws, hl with | [_, _], [], _ => bd_items X u_Graph___init__ rfl ⟨_, rfl, rfl⟩), fun {vs us zs ws} p0 q0 => by (cases p0 with | nil => exact .nil | cons s0 p1 => (cases p1 with | nil => exact .nil | cons s1 p2 => (cases p2 with | nil => (cases q0 with | nil => exact .cons s0 (.cons s1 (.nil)) | cons r q => exact .nil) | cons s p => exact .nil)))⟩
    kb_Graph_accepts_2_ := ⟨kg_Graph_accepts_2_, ⟨fun s us ws _ hl => (match us, ws, hl with | [_, _], [], _ => .of_eq rfl), fun {vs us zs ws} p0 q0 => by (cases p0 with | nil => exact .nil | cons s0 p1 => (cases p1 with | nil => exact .nil | cons s1 p2 => (cases p2 with | nil => (cases q0 with | nil => exact .cons s0 (.cons s1 (.nil)) | cons r q => exact .nil) | cons s p => exact .nil)))⟩⟩
    kb_Graph_follow_3_ := ⟨kg_Graph_follow_3_, ⟨fun s us ws _ hl => (match us, ws, hl with | [_, _, _], [], _ => .of_eq rfl), fun {vs us zs ws} p0 q0 => by (cases p0 with | nil => exact .nil | cons s0 p1 => (cases p1 with | nil => exact .nil | cons s1 p2 => (cases p2 with | nil => exact .nil | cons s2 p3 => (cases p3 with | nil => (cases q0 with | nil => exact .cons s0 (.cons s1 (.cons s2 (.nil))) | cons r q => exact .nil) | cons s p => exact .nil))))⟩⟩
    kb_Graph_has_node_2_ := ⟨kg_Graph_has_node_2_, ⟨fun s us ws _ hl => (match us, ws, hl with | [_, _], [], _ => .of_eq rfl), fun {vs us zs ws} p0 q0 => by (cases p0 with | nil => exact .nil | cons s0 p1 => (cases p1 with | nil => exact .nil | cons s1 p2 => (cases p2 with | nil => (cases q0 with | nil => exact .cons s0 (.cons s1 (.nil)) | cons r q => exact .nil) | cons s p => exact .nil)))⟩⟩
    kb_Graph_is_complete_1_ := ⟨kg_Graph_is_complete_1_, ⟨fun s us ws _ hl => (match us, ws, hl with | [_], [], _ => .of_eq rfl), fun {vs us zs ws} p0 q0 => by (cases p0 with | nil => exact .nil | cons s0 p1 => (cases p1 with | nil => (cases q0 with | nil => exact .cons s0 (.nil) | cons r q => exact .nil) | cons s p => exact .nil))⟩⟩
    kb_Graph_missing_1_ := ⟨kg_Graph_missing_1_, ⟨fun s us ws _ hl => (match us, ws, hl with | [_], [], _ => .of_eq rfl), fun {vs us zs ws} p0 q0 => by (cases p0 with | nil => exact .nil | cons s0 p1 => (cases p1 with | nil => (cases q0 with | nil => exact .cons s0 (.nil) | cons r q => exact .nil) | cons s p => exact .nil))⟩⟩
    kb_Graph_target_3_ := ⟨kg_Graph_target_3_, ⟨fun s us ws _ hl => (match us, ws, hl with | [_, _, _], [], _ => .of_eq rfl), fun {vs us zs ws} p0 q0 => by (cases p0 with | nil => exact .nil | cons s0 p1 => (cases p1 with | nil => exact .nil | cons s1 p2 => (cases p2 with | nil => exact .nil | cons s2 p3 => (cases p3 with | nil => (cases q0 with | nil => exact .cons s0 (.cons s1 (.cons s2 (.nil))) | cons r q => exact .nil) | cons s p => exact .nil))))⟩⟩
    c_LETTERS := ⟨_, PySem.W.mg_of X G n_LETTERS⟩
    c_MAX_NODES := ⟨_, PySem.W.mg_of X G n_MAX_NODES⟩
    c_STEPS := ⟨_, PySem.W.mg_of X G n_STEPS⟩
    z_IndexError := PySem.W.mg_none_of X G z_IndexError
    z_ValueError := PySem.W.mg_none_of X G z_ValueError
    z_bool := PySem.W.mg_none_of X G z_bool
    z_enumerate := PySem.W.mg_none_of X G z_enumerate
    z_int := PySem.W.mg_none_of X G z_int
    z_isinstance := PySem.W.mg_none_of X G z_isinstance
    z_len := PySem.W.mg_none_of X G z_len
    z_list := PySem.W.mg_none_of X G z_list
    z_max := PySem.W.mg_none_of X G z_max
    z_min := PySem.W.mg_none_of X G z_min
    z_range := PySem.W.mg_none_of X G z_range
    z_repr := PySem.W.mg_none_of X G z_repr
    z_str := PySem.W.mg_none_of X G z_str
    z_tuple := PySem.W.mg_none_of X G z_tuple
    x_InvalidGraph := ⟨x_InvalidGraph_im, x_InvalidGraph_ov, x_InvalidGraph_hd, x_InvalidGraph_sa, x_InvalidGraph_ga, x_InvalidGraph_gg, x_InvalidGraph_exC, x_InvalidGraph_tyC, x_InvalidGraph_kC, x_InvalidGraph_cl, x_InvalidGraph_gs, x_InvalidGraph_tk, x_InvalidGraph_mo⟩
    x_InvalidNode := ⟨x_InvalidNode_im, x_InvalidNode_ov, x_InvalidNode_hd, x_InvalidNode_sa, x_InvalidNode_ga, x_InvalidNode_gg, x_InvalidNode_exC, x_InvalidNode_tyC, x_InvalidNode_kC, x_InvalidNode_cl, x_InvalidNode_gs, x_InvalidNode_tk, x_InvalidNode_mo⟩
    x_InvalidNumber := ⟨x_InvalidNumber_im, x_InvalidNumber_ov, x_InvalidNumber_hd, x_InvalidNumber_sa, x_InvalidNumber_ga, x_InvalidNumber_gg, x_InvalidNumber_exC, x_InvalidNumber_tyC, x_InvalidNumber_kC, x_InvalidNumber_cl, x_InvalidNumber_gs, x_InvalidNumber_tk, x_InvalidNumber_mo⟩
    x_InvalidPath := ⟨x_InvalidPath_im, x_InvalidPath_ov, x_InvalidPath_hd, x_InvalidPath_sa, x_InvalidPath_ga, x_InvalidPath_gg, x_InvalidPath_exC, x_InvalidPath_tyC, x_InvalidPath_kC, x_InvalidPath_cl, x_InvalidPath_gs, x_InvalidPath_tk, x_InvalidPath_mo⟩
    t_InvalidGraph := t_InvalidGraph
    t_InvalidNode := t_InvalidNode
    t_InvalidNumber := t_InvalidNumber
    t_InvalidPath := t_InvalidPath
    n_InvalidGraph_index := n_InvalidGraph_index
    n_InvalidNode_value := n_InvalidNode_value
    n_InvalidNumber_value := n_InvalidNumber_value
    n_InvalidPath_value := n_InvalidPath_value
    v_IndexError := v_IndexError
    s_PathError := s_PathError
    r_PathError := r_PathError
    v_PathError := v_PathError
    ko_InvalidNode_IndexError := ko_InvalidNode_IndexError
    ko_InvalidNode_PathError := ko_InvalidNode_PathError
    ko_InvalidPath_PathError := ko_InvalidPath_PathError
    ko_InvalidPath_ValueError := ko_InvalidPath_ValueError
    cl_Graph := ⟨cl_Graph_p0, cl_Graph_p1, cl_Graph_p2, cl_Graph_p3⟩
    me_Graph_accepts := ⟨me_Graph_accepts_p0, me_Graph_accepts_p1, me_Graph_accepts_p2⟩
    me_Graph_follow := ⟨me_Graph_follow_p0, me_Graph_follow_p1, me_Graph_follow_p2⟩
    me_Graph_has_node := ⟨me_Graph_has_node_p0, me_Graph_has_node_p1, me_Graph_has_node_p2⟩
    me_Graph_is_complete := ⟨me_Graph_is_complete_p0, me_Graph_is_complete_p1, me_Graph_is_complete_p2⟩
    me_Graph_missing := ⟨me_Graph_missing_p0, me_Graph_missing_p1, me_Graph_missing_p2⟩
    me_Graph_target := ⟨me_Graph_target_p0, me_Graph_target_p1, me_Graph_target_p2⟩
    mk_Graph := ⟨mk_Graph_p0, mk_Graph_p1, mk_Graph_p2, mk_Graph_p3⟩
    na_Graph_node_count := na_Graph_node_count
    na_Graph_targets := na_Graph_targets
    m_InvalidNode_InvalidNode := PySem.W.exm_ref x_InvalidNode_exC x_InvalidNode_hd x_InvalidNode_tyC sb_InvalidNode_InvalidNode
    m_InvalidNode_InvalidPath := PySem.W.exm_ref x_InvalidPath_exC x_InvalidPath_hd x_InvalidPath_tyC sb_InvalidNode_InvalidPath
    m_InvalidPath_InvalidNode := PySem.W.exm_ref x_InvalidNode_exC x_InvalidNode_hd x_InvalidNode_tyC sb_InvalidPath_InvalidNode
    m_InvalidPath_InvalidPath := PySem.W.exm_ref x_InvalidPath_exC x_InvalidPath_hd x_InvalidPath_tyC sb_InvalidPath_InvalidPath }
  exact ⟨_, fun s v => .of_eq rfl, fun base _ _ => ok_law2 T⟩
end Pf
open PySem PySem.W PyProof.Rows
set_option maxRecDepth 100000 in
set_option maxHeartbeats 0 in
theorem PySem.Challenge.cw_walkshome_k12_steps_lead_there_and_back_holds : PySem.Challenge.rw_walkshome_k12_steps_lead_there_and_back.Holds := by
  w_on; o_law; k_head; (case hw => w_witness2)
  k_fill
  refine Hx.walkG (l := PySem.Challenge.rw_walkshome_k12_steps_lead_there_and_back) (n := 63) (k := 6) (x := "_law_script") (CX := fun w => L2.CX (PySem.Challenge.rw_walkshome_k12_steps_lead_there_and_back).prog w) (sp := fun w => Pf.sp_law _) rfl (by decide) rfl ⟨rfl, by decide, by decide⟩ (fun w h Y => PySem.W.kIn_of Y) ?F (fun _ _ a ns hl _ hS => ⟨a, ns, rfl, hS, hl, fun _ => rfl⟩) (fun _ _ _ _ _ h => by obtain ⟨_, _, _, _, _, _, _, _, _, _, _, _, z⟩ := h; exact z)
  case F =>
    intro w mg fa h KX G hmg
    refine' Pf.all_mk KX G hmg ?a_law_pool ?a_law_draw ?a_law_edges ?a_is_integer ?a_law_back ?a_law_targets ?a_law_agrees ?a_law_actual ?a_law_errors ?a_law ?ac_Graph ?ac_InvalidGraph ?ac_InvalidNode ?ac_InvalidNumber ?ac_InvalidPath ?ac_PathError ?i_InvalidGraph ?i_InvalidNode ?i_InvalidNumber ?i_InvalidPath ?me_Graph_accepts_p0 ?me_Graph_follow_p0 ?me_Graph_has_node_p0 ?me_Graph_is_complete_p0 ?me_Graph_missing_p0 ?me_Graph_target_p0 ?mk_Graph_p1 ?l_law_pool ?c_law_pool ?k_law_pool ?l_law_draw ?c_law_draw ?k_law_draw ?l_law_edges ?c_law_edges ?k_law_edges ?l_is_integer ?c_is_integer ?k_is_integer ?l_InvalidNumber___init__ ?c_InvalidNumber___init__ ?k_InvalidNumber___init__ ?l_InvalidGraph___init__ ?c_InvalidGraph___init__ ?k_InvalidGraph___init__ ?l_Graph_has_node ?c_Graph_has_node ?k_Graph_has_node ?l_Graph_accepts ?c_Graph_accepts ?k_Graph_accepts ?l_Graph___init__ ?u_Graph___init__ ?c_Graph___init__ ?k_Graph___init__ ?l_law_back ?c_law_back ?k_law_back ?l_law_targets ?c_law_targets ?k_law_targets ?l_InvalidNode___init__ ?c_InvalidNode___init__ ?k_InvalidNode___init__ ?l_InvalidPath___init__ ?c_InvalidPath___init__ ?k_InvalidPath___init__ ?l_Graph_follow ?c_Graph_follow ?k_Graph_follow ?l_Graph_target ?c_Graph_target ?k_Graph_target ?l_Graph_missing ?c_Graph_missing ?k_Graph_missing ?l_Graph_is_complete ?c_Graph_is_complete ?k_Graph_is_complete ?l_law_agrees ?c_law_agrees ?k_law_agrees ?l_law_actual ?c_law_actual ?k_law_actual ?l_law_errors ?c_law_errors ?k_law_errors ?l_law ?c_law ?k_law ?n_LETTERS ?n_MAX_NODES ?n_STEPS ?z_IndexError ?z_ValueError ?z_bool ?z_enumerate ?z_int ?z_isinstance ?z_len ?z_list ?z_max ?z_min ?z_range ?z_repr ?z_str ?z_tuple ?x_InvalidGraph_im ?x_InvalidGraph_ov ?x_InvalidGraph_hd ?x_InvalidGraph_sa ?x_InvalidGraph_ga ?x_InvalidGraph_gg ?x_InvalidGraph_exC ?x_InvalidGraph_tyC ?x_InvalidGraph_kC ?x_InvalidGraph_cl ?x_InvalidGraph_gs ?x_InvalidGraph_tk ?x_InvalidGraph_mo ?x_InvalidNode_im ?x_InvalidNode_ov ?x_InvalidNode_hd ?x_InvalidNode_sa ?x_InvalidNode_ga ?x_InvalidNode_gg ?x_InvalidNode_exC ?x_InvalidNode_tyC ?x_InvalidNode_kC ?x_InvalidNode_cl ?x_InvalidNode_gs ?x_InvalidNode_tk ?x_InvalidNode_mo ?x_InvalidNumber_im ?x_InvalidNumber_ov ?x_InvalidNumber_hd ?x_InvalidNumber_sa ?x_InvalidNumber_ga ?x_InvalidNumber_gg ?x_InvalidNumber_exC ?x_InvalidNumber_tyC ?x_InvalidNumber_kC ?x_InvalidNumber_cl ?x_InvalidNumber_gs ?x_InvalidNumber_tk ?x_InvalidNumber_mo ?x_InvalidPath_im ?x_InvalidPath_ov ?x_InvalidPath_hd ?x_InvalidPath_sa ?x_InvalidPath_ga ?x_InvalidPath_gg ?x_InvalidPath_exC ?x_InvalidPath_tyC ?x_InvalidPath_kC ?x_InvalidPath_cl ?x_InvalidPath_gs ?x_InvalidPath_tk ?x_InvalidPath_mo ?t_InvalidGraph ?t_InvalidNode ?t_InvalidNumber ?t_InvalidPath ?n_InvalidGraph_index ?n_InvalidNode_value ?n_InvalidNumber_value ?n_InvalidPath_value ?v_IndexError ?s_PathError ?r_PathError ?v_PathError ?ko_InvalidNode_IndexError ?ko_InvalidNode_PathError ?ko_InvalidPath_PathError ?ko_InvalidPath_ValueError ?cl_Graph_p0 ?cl_Graph_p1 ?cl_Graph_p2 ?cl_Graph_p3 ?me_Graph_accepts_p1 ?me_Graph_accepts_p2 ?me_Graph_follow_p1 ?me_Graph_follow_p2 ?me_Graph_has_node_p1 ?me_Graph_has_node_p2 ?me_Graph_is_complete_p1 ?me_Graph_is_complete_p2 ?me_Graph_missing_p1 ?me_Graph_missing_p2 ?me_Graph_target_p1 ?me_Graph_target_p2 ?mk_Graph_p0 ?mk_Graph_p2 ?mk_Graph_p3 ?na_Graph_node_count ?na_Graph_targets ?sb_InvalidNode_InvalidNode ?sb_InvalidNode_InvalidPath ?sb_InvalidPath_InvalidNode ?sb_InvalidPath_InvalidPath
    (case a_law_pool => k_is)
    (case a_law_draw => k_is)
    (case a_law_edges => k_is)
    (case a_is_integer => k_is)
    (case a_law_back => k_is)
    (case a_law_targets => k_is)
    (case a_law_agrees => k_is)
    (case a_law_actual => k_is)
    (case a_law_errors => k_is)
    (case a_law => k_is)
    (case ac_Graph => k_is)
    (case ac_InvalidGraph => k_is)
    (case ac_InvalidNode => k_is)
    (case ac_InvalidNumber => k_is)
    (case ac_InvalidPath => k_is)
    (case ac_PathError => k_is)
    (case i_InvalidGraph => k_is)
    (case i_InvalidNode => k_is)
    (case i_InvalidNumber => k_is)
    (case i_InvalidPath => k_is)
    (case me_Graph_accepts_p0 => k_is)
    (case me_Graph_follow_p0 => k_is)
    (case me_Graph_has_node_p0 => k_is)
    (case me_Graph_is_complete_p0 => k_is)
    (case me_Graph_missing_p0 => k_is)
    (case me_Graph_target_p0 => k_is)
    (case mk_Graph_p1 => k_is)
    (case l_law_pool => k_is)
    (case c_law_pool => k_is)
    (case k_law_pool => k_is)
    (case l_law_draw => k_is)
    (case c_law_draw => k_is)
    (case k_law_draw => k_is)
    (case l_law_edges => k_is)
    (case c_law_edges => k_is)
    (case k_law_edges => k_is)
    (case l_is_integer => k_is)
    (case c_is_integer => k_is)
    (case k_is_integer => k_is)
    (case l_InvalidNumber___init__ => k_is)
    (case c_InvalidNumber___init__ => k_is)
    (case k_InvalidNumber___init__ => k_is)
    (case l_InvalidGraph___init__ => k_is)
    (case c_InvalidGraph___init__ => k_is)
    (case k_InvalidGraph___init__ => k_is)
    (case l_Graph_has_node => k_is)
    (case c_Graph_has_node => k_is)
    (case k_Graph_has_node => k_is)
    (case l_Graph_accepts => k_is)
    (case c_Graph_accepts => k_is)
    (case k_Graph_accepts => k_is)
    (case l_Graph___init__ => k_is)
    (case u_Graph___init__ => k_is)
    (case c_Graph___init__ => k_is)
    (case k_Graph___init__ => k_is)
    (case l_law_back => k_is)
    (case c_law_back => k_is)
    (case k_law_back => k_is)
    (case l_law_targets => k_is)
    (case c_law_targets => k_is)
    (case k_law_targets => k_is)
    (case l_InvalidNode___init__ => k_is)
    (case c_InvalidNode___init__ => k_is)
    (case k_InvalidNode___init__ => k_is)
    (case l_InvalidPath___init__ => k_is)
    (case c_InvalidPath___init__ => k_is)
    (case k_InvalidPath___init__ => k_is)
    (case l_Graph_follow => k_is)
    (case c_Graph_follow => k_is)
    (case k_Graph_follow => k_is)
    (case l_Graph_target => k_is)
    (case c_Graph_target => k_is)
    (case k_Graph_target => k_is)
    (case l_Graph_missing => k_is)
    (case c_Graph_missing => k_is)
    (case k_Graph_missing => k_is)
    (case l_Graph_is_complete => k_is)
    (case c_Graph_is_complete => k_is)
    (case k_Graph_is_complete => k_is)
    (case l_law_agrees => k_is)
    (case c_law_agrees => k_is)
    (case k_law_agrees => k_is)
    (case l_law_actual => k_is)
    (case c_law_actual => k_is)
    (case k_law_actual => k_is)
    (case l_law_errors => k_is)
    (case c_law_errors => k_is)
    (case k_law_errors => k_is)
    (case l_law => k_is)
    (case c_law => k_is)
    (case k_law => k_is)
    (case n_LETTERS => k_is)
    (case n_MAX_NODES => k_is)
    (case n_STEPS => k_is)
    (case z_IndexError => k_is)
    (case z_ValueError => k_is)
    (case z_bool => k_is)
    (case z_enumerate => k_is)
    (case z_int => k_is)
    (case z_isinstance => k_is)
    (case z_len => k_is)
    (case z_list => k_is)
    (case z_max => k_is)
    (case z_min => k_is)
    (case z_range => k_is)
    (case z_repr => k_is)
    (case z_str => k_is)
    (case z_tuple => k_is)
    (case x_InvalidGraph_im => kx_is; done)
    (case x_InvalidGraph_ov => kx_is; done)
    (case x_InvalidGraph_hd => k_is)
    (case x_InvalidGraph_sa => k_is)
    (case x_InvalidGraph_ga => k_is)
    (case x_InvalidGraph_gg => k_is)
    (case x_InvalidGraph_exC => k_is)
    (case x_InvalidGraph_tyC => k_is)
    (case x_InvalidGraph_kC => k_is)
    (case x_InvalidGraph_cl => k_is)
    (case x_InvalidGraph_gs => k_is)
    (case x_InvalidGraph_tk => k_is)
    (case x_InvalidGraph_mo => k_is)
    (case x_InvalidNode_im => kx_is; done)
    (case x_InvalidNode_ov => kx_is; done)
    (case x_InvalidNode_hd => k_is)
    (case x_InvalidNode_sa => k_is)
    (case x_InvalidNode_ga => k_is)
    (case x_InvalidNode_gg => k_is)
    (case x_InvalidNode_exC => k_is)
    (case x_InvalidNode_tyC => k_is)
    (case x_InvalidNode_kC => k_is)
    (case x_InvalidNode_cl => k_is)
    (case x_InvalidNode_gs => k_is)
    (case x_InvalidNode_tk => k_is)
    (case x_InvalidNode_mo => k_is)
    (case x_InvalidNumber_im => kx_is; done)
    (case x_InvalidNumber_ov => kx_is; done)
    (case x_InvalidNumber_hd => k_is)
    (case x_InvalidNumber_sa => k_is)
    (case x_InvalidNumber_ga => k_is)
    (case x_InvalidNumber_gg => k_is)
    (case x_InvalidNumber_exC => k_is)
    (case x_InvalidNumber_tyC => k_is)
    (case x_InvalidNumber_kC => k_is)
    (case x_InvalidNumber_cl => k_is)
    (case x_InvalidNumber_gs => k_is)
    (case x_InvalidNumber_tk => k_is)
    (case x_InvalidNumber_mo => k_is)
    (case x_InvalidPath_im => kx_is; done)
    (case x_InvalidPath_ov => kx_is; done)
    (case x_InvalidPath_hd => k_is)
    (case x_InvalidPath_sa => k_is)
    (case x_InvalidPath_ga => k_is)
    (case x_InvalidPath_gg => k_is)
    (case x_InvalidPath_exC => k_is)
    (case x_InvalidPath_tyC => k_is)
    (case x_InvalidPath_kC => k_is)
    (case x_InvalidPath_cl => k_is)
    (case x_InvalidPath_gs => k_is)
    (case x_InvalidPath_tk => k_is)
    (case x_InvalidPath_mo => k_is)
    (case t_InvalidGraph => k_is)
    (case t_InvalidNode => k_is)
    (case t_InvalidNumber => k_is)
    (case t_InvalidPath => k_is)
    (case n_InvalidGraph_index => k_is)
    (case n_InvalidNode_value => k_is)
    (case n_InvalidNumber_value => k_is)
    (case n_InvalidPath_value => k_is)
    (case v_IndexError => k_is)
    (case s_PathError => k_is)
    (case r_PathError => k_is)
    (case v_PathError => k_is)
    (case ko_InvalidNode_IndexError => kit_is)
    (case ko_InvalidNode_PathError => kit_is)
    (case ko_InvalidPath_PathError => kit_is)
    (case ko_InvalidPath_ValueError => kit_is)
    (case cl_Graph_p0 => k_is)
    (case cl_Graph_p1 => k_is)
    (case cl_Graph_p2 => k_is)
    (case cl_Graph_p3 => k_is)
    (case me_Graph_accepts_p1 => k_is)
    (case me_Graph_accepts_p2 => k_is)
    (case me_Graph_follow_p1 => k_is)
    (case me_Graph_follow_p2 => k_is)
    (case me_Graph_has_node_p1 => k_is)
    (case me_Graph_has_node_p2 => k_is)
    (case me_Graph_is_complete_p1 => k_is)
    (case me_Graph_is_complete_p2 => k_is)
    (case me_Graph_missing_p1 => k_is)
    (case me_Graph_missing_p2 => k_is)
    (case me_Graph_target_p1 => k_is)
    (case me_Graph_target_p2 => k_is)
    (case mk_Graph_p0 => k_is)
    (case mk_Graph_p2 => k_is)
    (case mk_Graph_p3 => k_is)
    (case na_Graph_node_count => k_is)
    (case na_Graph_targets => k_is)
    (case sb_InvalidNode_InvalidNode => k_is)
    (case sb_InvalidNode_InvalidPath => k_is)
    (case sb_InvalidPath_InvalidNode => k_is)
    (case sb_InvalidPath_InvalidPath => k_is)
#print axioms PySem.Challenge.cw_walkshome_k12_steps_lead_there_and_back_holds
