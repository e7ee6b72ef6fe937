import PyProof.Rows.All
import Wide.All
import OpenK.AllK
import Wide.FinOn
import HandS.ForMost
import HandS.Flow
import HandS.IsInst
import HandS.WideBits
import HandS.Style
import HandS.TupAny
import HandS.TupMul
import HandS.Steps
import HandS.Evl
import HandS.Defaults
import HandS.HeadEnd
import HandS.HeadHook2
import HandS.Head2
import PySem.Challenge.RW_sumtold_k05_parts_reckoned
set_option Elab.async false
set_option linter.all false
set_option maxRecDepth 100000
set_option maxHeartbeats 4000000
namespace Go
open PySem PySem.Spec PyProof.Rows L2
/-! ### readings by short names -/
abbrev rAddI : R2 := rI0 fun i j => .int (i + j)
abbrev rSubI : R2 := rI0 fun i j => .int (i - j)
abbrev rMulI : R2 := rI CMul fun i j => .int (i * j)
abbrev rMulX : R2 := rI CMulX fun i j => .int (i * j)
abbrev rDivI : R2 := rI CDivW fun i j => .int (i / j)
abbrev rModI : R2 := rI (fun _ j => 0 < j) fun i j => .int (i % j)
abbrev rPowI : R2 := rI CPow fun i j => .int (i ^ j.toNat)
abbrev rShlI : R2 := rI CShl fun i j => .int (i * 2 ^ j.toNat)
abbrev rShrI : R2 := rI (fun _ j => 0 ≤ j) fun i j => .int (i / 2 ^ j.toNat)
abbrev rAndI : R2 := rI0 fun i j => .int (Builtin.bitAnd i j)
abbrev rLtI : R2 := rI0 fun i j => .bl (decide (i < j))
abbrev rLeI : R2 := rI0 fun i j => .bl (decide (i ≤ j))
abbrev rGtI : R2 := rI0 fun i j => .bl (decide (j < i))
abbrev rGeI : R2 := rI0 fun i j => .bl (decide (j ≤ i))
abbrev rNegI : V → Hp → VK → Prop := rU fun i => .int (-i)
abbrev rAbs : List V → Hp → VK → Prop := fun xs H Q => ∃ i, xs = [.int i] ∧ Q (.int (if i < 0 then -i else i)) H
abbrev rMin2 : List V → Hp → VK → Prop := fun xs H Q => ∃ i j, xs = [.int i, .int j] ∧ Q (.int (if j < i then j else i)) H
abbrev rInt1 : List V → Hp → VK → Prop := fun xs H Q => (∃ i, xs = [.int i] ∧ Q (.int i) H) ∨ ∃ k, xs = [.bl k] ∧ Q (.int (if k then 1 else 0)) H
abbrev rTupOf (K : PySem.W.Frag) : List V → Hp → VK → Prop := fun xs H Q => ∃ p ys, xs = [.ref p] ∧ ((SqL K H p ys ∧ ∀ l, H l = none → Q (.ref l) (upd H l (.tup ys))) ∨ (SqT K H p ys ∧ Q (.ref p) H))
abbrev rAddStr : R2 := fun x y H Q => ∃ i j, x = .str i ∧ y = .str j ∧ i.length + j.length ≤ sizeLine ∧ Q (.str (i ++ j)) H
abbrev rLenStr : List V → Hp → VK → Prop := fun xs H Q => ∃ z, xs = [.str z] ∧ z.length ≤ sizeLine ∧ Q (.int z.length) H
/-! ### a def that keeps its promise, by its name -/
abbrev FnP (K : PySem.W.Frag) (x : Str) (st : Stmt) (f : Addr) (fd : FuncData) : Prop := FunD K x x (defArgs st) (defBody st) (defScope st) [] [] f fd
def Has (P : Program) (w : World) (K : PySem.W.Frag) (mg : Str → Option Value) (base : Heap) (x : Str) (k : Nat) (ps : List Str) (sp : Sp) : Prop :=
  ∃ (f : Addr) (fd : FuncData), mg x = some (.ref f) ∧ PySem.W.keepIn K (.ref f) = true ∧ Binds K fd ps [] ∧ FnOk P w K mg base CX0 k f fd ps sp
theorem pe_has {X : Cx} {x : Str} {p pos : Pos} {e : Expr} {es : List Expr} {t : TA} {k : Nat} {ps : List Str} {sp : Sp} (h : Has X.prog X.w X.K X.mg X.base x k ps sp) (hr : Room k X.A) (hg : Gl X x) (ha : PA X (e :: es) t)
    (hd : (x == ("__debug__" : Str)) = false := by decide) (he : starEach (e :: es) X.env = (false, eval e X.env) :: starEach es X.env := by rfl) (hpl : (backTo pos (starEach es X.env)).any (·.1) = false := by rfl) :
    PE X (.Call (.Name x p) (e :: es) [] pos) (tCall sp [] E0 t) := by
  obtain ⟨f, fd, gm, kp, b, F⟩ := h
  exact pe_call F hr hg gm kp b .nil pass0 ha hd he hpl
/-! ### stepping -/
section
variable {K : PySem.W.Frag} {σ : L2.St} {H H' : Hp} {Q : VK} {QB : Bool → Hp → Prop} {D : Ends} {t u : TS} {c c' : TT} {te ta tb tc : TE} {tr : TA} {i : Nat} {v x y : V} {r r' : R2} {a b : Addr} {o : HO} {xs ys : List V}
theorem w_seq (h : t { D with nx := u D } σ H) : tSeq t u D σ H := h
theorem w_next (h : D.nx σ H) : tNext D σ H := h
theorem w_asg (h : te σ H fun x H1 => D.nx (σ.set i (some x)) H1) : tAsg te (gName i) D σ H := h
theorem w_drop (h : te σ H fun _ H1 => D.nx σ H1) : tDrop te D σ H := h
theorem w_ret (h : te σ H D.rt) : tRet te D σ H := h
theorem w_if (h : c σ H fun b H1 => if b = true then t D σ H1 else u D σ H1) : tIfS c t u D σ H := h
theorem w_par {j : Nat} (h : tr σ H fun vs H1 => ∃ v w, vs = [v, w] ∧ D.nx ((σ.set i (some v)).set j (some w)) H1) : tPar i j tr D σ H := h
theorem w_sub {to ti : TE} {ts : TSet} (h : te σ H fun x H1 => to σ H1 fun o H2 => ti σ H2 fun i H3 => ts o i x H3 fun H4 => D.nx σ H4) : tAsg te (gSub to ti ts) D σ H := h
theorem w_setL {xs : List V} {k : Int} {j : Nat} {Qh : Hp → Prop} (h : H a = some (.lst xs)) (hj : ixN xs.length k = some j) (q : Qh (upd H a (.lst (xs.set j v)))) : rSetL (.ref a) (.int k) v H Qh := ⟨a, xs, k, j, rfl, rfl, h, hj, q⟩
theorem w_gName {QS : L2.St → Hp → Prop} (q : QS (σ.set i (some v)) H) : gName i v σ H QS := q
theorem w_gTup {n : Nat} {tg : TGs} {QS : L2.St → Hp → Prop} (h : SqT K H a xs) (hn : xs.length = n) (q : tg xs σ H QS) : gTup K n tg (.ref a) σ H QS := ⟨a, xs, rfl, h, hn, q⟩
theorem w_gCons {g1 : TG} {tg : TGs} {QS : L2.St → Hp → Prop} (q : g1 v σ H fun σ' H' => tg xs σ' H' QS) : gCons g1 tg (v :: xs) σ H QS := ⟨v, xs, rfl, q⟩
theorem w_gNil {QS : L2.St → Hp → Prop} (q : QS σ H) : gNil [] σ H QS := ⟨rfl, q⟩
theorem w_asgG {g : TG} (h : te σ H fun x H1 => g x σ H1 D.nx) : tAsg te g D σ H := h
theorem w_var (h : σ[i]? = some (some v)) (q : Q v H) : tVar i σ H Q := ⟨v, h, q⟩
theorem w_con (q : Q v H) : tC v σ H Q := q
theorem w_op (h : ta σ H fun x H1 => tb σ H1 fun y H2 => r x y H2 Q) : tOp r ta tb σ H Q := h
theorem w_un {r : V → Hp → VK → Prop} (h : ta σ H fun x H1 => r x H1 Q) : tUn r ta σ H Q := h
theorem w_I0 {g : Int → Int → V} {i j : Int} (q : Q (g i j) H) : rI0 g (.int i) (.int j) H Q := ⟨i, j, rfl, rfl, q⟩
theorem w_I {C : Int → Int → Prop} {g : Int → Int → V} {i j : Int} (hc : C i j) (q : Q (g i j) H) : rI C g (.int i) (.int j) H Q := ⟨i, j, rfl, rfl, hc, q⟩
theorem w_mulI {i j : Int} (hc : CMul i j) (q : Q (.int (i * j)) H) : rMulI (.int i) (.int j) H Q := w_I hc q
theorem w_modI {i j : Int} (hc : 0 < j) (q : Q (.int (i % j)) H) : rModI (.int i) (.int j) H Q := w_I (C := fun _ j => 0 < j) hc q
theorem w_divI {i j : Int} (hc : CDivW i j) (q : Q (.int (i / j)) H) : rDivI (.int i) (.int j) H Q := w_I hc q
theorem w_powI {i j : Int} (hc : CPow i j) (q : Q (.int (i ^ j.toNat)) H) : rPowI (.int i) (.int j) H Q := w_I hc q
theorem w_shrI {i j : Int} (hc : 0 ≤ j) (q : Q (.int (i / 2 ^ j.toNat)) H) : rShrI (.int i) (.int j) H Q := w_I (C := fun _ j => 0 ≤ j) hc q
theorem w_mulX {i j : Int} (hc : CMulX i j) (q : Q (.int (i * j)) H) : rMulX (.int i) (.int j) H Q := w_I hc q
theorem w_shlI {i j : Int} (hc : CShl i j) (q : Q (.int (i * 2 ^ j.toNat)) H) : rShlI (.int i) (.int j) H Q := w_I hc q
theorem w_U {g : Int → V} {i : Int} (q : Q (g i) H) : rU g (.int i) H Q := ⟨i, rfl, q⟩
theorem w_eq (hs : scal x y = true) (q : Q (.bl (decide (x = y))) H) : rEq x y H Q := ⟨hs, q⟩
theorem w_ne (hs : scal x y = true) (q : Q (.bl (!decide (x = y))) H) : rNe x y H Q := ⟨hs, q⟩
theorem w_isB {p q : Bool} (h : Q (.bl (decide (p = q))) H) : rIsB (.bl p) (.bl q) H Q := ⟨p, q, rfl, rfl, h⟩
theorem w_notB {p q : Bool} (h : Q (.bl (!decide (p = q))) H) : rNotB (.bl p) (.bl q) H Q := ⟨p, q, rfl, rfl, h⟩
theorem w_isN (h : Q (.bl (decide (x = .non))) H) : L2.rIsN x .non H Q := ⟨rfl, h⟩
theorem w_notN (h : Q (.bl (!decide (x = .non))) H) : L2.rNotN x .non H Q := ⟨rfl, h⟩
theorem w_test (h : te σ H fun x H' => ∃ k, x = .bl k ∧ QB k H') : tTest te σ H QB := h
theorem w_tB (h : te σ H fun x H' => ∃ k, x = .bl k ∧ QB k H') : tB te σ H QB := h
theorem w_k {k : Bool} {R : Bool → Prop} (q : R k) : ∃ k', V.bl k = .bl k' ∧ R k' := ⟨k, rfl, q⟩
theorem w_not (h : c σ H fun k H1 => QB (!k) H1) : tNot c σ H QB := h
theorem w_and (h : c σ H fun k H1 => if k = true then c' σ H1 QB else QB false H1) : tAnd c c' σ H QB := h
theorem w_or (h : c σ H fun k H1 => if k = true then QB true H1 else c' σ H1 QB) : tOr c c' σ H QB := h
theorem w_andV (h : ta σ H fun x H1 => ∃ k, x = .bl k ∧ if k = true then tb σ H1 Q else Q (.bl false) H1) : tAndV ta tb σ H Q := h
theorem w_orV (h : ta σ H fun x H1 => ∃ k, x = .bl k ∧ if k = true then Q (.bl true) H1 else tb σ H1 Q) : tOrV ta tb σ H Q := h
theorem w_notV (h : ta σ H fun x H1 => ∃ k, x = .bl k ∧ Q (.bl (!k)) H1) : tNotV ta σ H Q := h
theorem w_chain (h : ta σ H fun x H1 => tb σ H1 fun y H2 => r x y H2 fun z H3 => ∃ k, z = .bl k ∧ (if k = true then tc σ H3 fun w' H4 => r' y w' H4 Q else Q (.bl false) H3)) : tChain r r' ta tb tc σ H Q := h
theorem w_orT (h : ta σ H fun x H1 => ∃ k, TruV K x H1 k ∧ if k = true then Q x H1 else tb σ H1 Q) : tOrT K ta tb σ H Q := h
theorem w_andT (h : ta σ H fun x H1 => ∃ k, TruV K x H1 k ∧ if k = true then tb σ H1 Q else Q x H1) : tAndT K ta tb σ H Q := h
theorem w_truI {n : Int} {R : Bool → Prop} (q : R (n != 0)) : ∃ k, TruV K (.int n) H k ∧ R k := ⟨_, rfl, q⟩
theorem w_ifE (h : c σ H fun k H1 => if k = true then ta σ H1 Q else tb σ H1 Q) : tIf c ta tb σ H Q := h
theorem w_nil {QL : List V → Hp → Prop} (q : QL [] H) : tNil σ H QL := q
theorem w_cons {QL : List V → Hp → Prop} (h : te σ H fun x H1 => tr σ H1 fun xs H2 => QL (x :: xs) H2) : tCons te tr σ H QL := h
theorem w_tup (h : tr σ H fun xs H1 => xs.length ≤ sizeLine ∧ ∀ p, H1 p = none → Q (.ref p) (upd H1 p (.tup xs))) : tTup tr σ H Q := h
theorem w_lst (h : tr σ H fun xs H1 => xs.length ≤ sizeLine ∧ ∀ p, H1 p = none → Q (.ref p) (upd H1 p (.lst xs))) : tLst tr σ H Q := h
theorem w_call {sp : Sp} {E : XK} (h : tr σ H fun vs H1 => sp vs H1 Q E) : tCall sp [] E tr σ H Q := by
  show tr σ H fun vs H1 => sp (vs ++ []) H1 Q E
  simp only [List.append_nil]
  exact h
theorem w_cb {r : List V → Hp → VK → Prop} (h : tr σ H fun vs H1 => r vs H1 Q) : tCB r tr σ H Q := h
theorem w_ixL {k : Int} (h : SqL K H a xs) (ha : atI xs k = some v) (q : Q v H) : rIxL K (.ref a) (.int k) H Q := ⟨a, xs, k, v, rfl, rfl, h, ha, q⟩
theorem w_ixT {k : Int} (h : SqT K H a xs) (ha : atI xs k = some v) (q : Q v H) : rIxT K (.ref a) (.int k) H Q := ⟨a, xs, k, v, rfl, rfl, h, ha, q⟩
theorem w_ixsL {k : Int} (h : SqL K H a xs) (ha : atI xs k = some v) (q : Q v H) : rIx K (.ref a) (.int k) H Q := .inl ⟨a, xs, k, v, rfl, rfl, h, ha, q⟩
theorem w_ixsT {k : Int} (h : SqT K H a xs) (ha : atI xs k = some v) (q : Q v H) : rIx K (.ref a) (.int k) H Q := .inr (.inl ⟨a, xs, k, v, rfl, rfl, h, ha, q⟩)
theorem w_min2 {m n : Int} (q : Q (.int (if n < m then n else m)) H) : rMin2 [.int m, .int n] H Q := ⟨m, n, rfl, q⟩
theorem w_max2 {m n : Int} (q : Q (.int (if n > m then n else m)) H) : Evl.rMax2 [.int m, .int n] H Q := ⟨m, n, rfl, q⟩
theorem w_bitsI {n : Int} {R : Int → Prop} (q : R n) : ∃ i, V.int n = .int i ∧ R i := ⟨n, rfl, q⟩
theorem w_abs {n : Int} (q : Q (.int (n.natAbs : Int)) H) : rAbs [.int n] H Q := ⟨n, rfl, by
  have e : (if n < 0 then -n else n) = (n.natAbs : Int) := by split <;> omega
  rw [e]; exact q⟩
theorem w_intB {k : Bool} (q : Q (.int (if k then 1 else 0)) H) : rInt1 [.bl k] H Q := .inr ⟨k, rfl, q⟩
theorem w_lenL (h : SqL K H a xs) (q : Q (.int xs.length) H) : Evl.rLenS K [.ref a] H Q := ⟨a, xs, rfl, .inl h, q⟩
theorem w_lenT (h : SqT K H a xs) (q : Q (.int xs.length) H) : Evl.rLenS K [.ref a] H Q := ⟨a, xs, rfl, .inr h, q⟩
theorem w_isi {cc : V} {tt uu : Value} {k : Bool} (hc : ClsV cc uu) (ht : TyX K H x tt) (hk : PySem.W.kitOne K tt uu = some k) (q : Q (.bl k) H) : rIsi K [x, cc] H Q := ⟨x, cc, tt, uu, k, rfl, hc, ht, hk, q⟩
theorem w_sl {rr : V → Option Int → Option Int → Hp → VK → Prop} {tl th : TO} (h : te σ H fun x H1 => tl σ H1 fun l H2 => th σ H2 fun u H3 => rr x l u H3 Q) : tSl rr te tl th σ H Q := h
theorem w_noPart {QO : Option Int → Hp → Prop} (q : QO none H) : tNoPart σ H QO := q
theorem w_part {QO : Option Int → Hp → Prop} (h : te σ H fun x H1 => ∃ i, x = .int i ∧ QO (some i) H1) : tPart te σ H QO := h
theorem w_partI {R : Int → Prop} {n : Int} (q : R n) : ∃ i, V.int n = .int i ∧ R i := ⟨n, rfl, q⟩
theorem w_slL {lo hi : Option Int} (h : SqL K H a xs) (q : ∀ p, H p = none → Q (.ref p) (upd H p (.lst (cutV xs lo hi)))) : rSlL K (.ref a) lo hi H Q := ⟨a, xs, rfl, h, q⟩
theorem w_cat (h : H a = some (.lst xs)) (h' : H b = some (.lst ys)) (hl : xs.length + ys.length ≤ sizeLine) (q : ∀ p, H p = none → Q (.ref p) (upd H p (.lst (xs ++ ys)))) : rCat (.ref a) (.ref b) H Q := ⟨a, b, xs, ys, rfl, rfl, h, h', hl, q⟩
theorem w_eqD {d e : PyData} (h1 : Dp K H x d) (h2 : Dp K H y e) (s1 : SeqAt.shaped d = true) (s2 : SeqAt.shaped e = true) (q : Q (.bl (PyData.eqv d e)) H) : rEqD K x y H Q := ⟨d, e, h1, h2, s1, s2, q⟩
theorem w_neD {d e : PyData} (h1 : Dp K H x d) (h2 : Dp K H y e) (s1 : SeqAt.shaped d = true) (s2 : SeqAt.shaped e = true) (q : Q (.bl (!PyData.eqv d e)) H) : rNeD K x y H Q := ⟨d, e, h1, h2, s1, s2, q⟩
theorem w_eqD_same {d : PyData} (h1 : Dp K H x d) (h2 : Dp K H y d) (s1 : SeqAt.shaped d = true) (q : Q (.bl true) H) : rEqD K x y H Q := ⟨d, d, h1, h2, s1, s1, by rw [SeqAt.eqv_refl d (SeqAt.canLay_of_shaped s1)]; exact q⟩
theorem w_neD_same {d : PyData} (h1 : Dp K H x d) (h2 : Dp K H y d) (s1 : SeqAt.shaped d = true) (q : Q (.bl false) H) : rNeD K x y H Q := ⟨d, d, h1, h2, s1, s1, by rw [SeqAt.eqv_refl d (SeqAt.canLay_of_shaped s1)]; exact q⟩
theorem dpP {m n : Int} (h : H a = some (.tup [.int m, .int n])) : Dp K H (.ref a) (.tuple [.int m, .int n]) := .tup (SqT.of h) (.cons (.int _) (.cons (.int _) .nil))
theorem dpN (h : H a = some (.lst [])) : Dp K H (.ref a) (.list []) := .lst (SqL.of h) .nil
theorem eqv_pair {m n m' n' : Int} : PyData.eqv (.tuple [.int m, .int n]) (.tuple [.int m', .int n']) = (decide (m = m') && decide (n = n')) := by
  simp [PyData.eqv, PyData.eqvAll, Bool.beq_eq_decide_eq]
theorem w_bits (h : te σ H fun x H1 => ∃ i, x = .int i ∧ Q (.int (Builtin.Int.intBits i : Nat)) H1) : tBits te σ H Q := h
/-! ### heaps -/
theorem keep {p : Addr} {u : HO} (h : H a = some o) (hp : H p = none) : upd H p u a = some o := by
  rw [upd_ne (ne_of_none h hp)]; exact h
theorem get (e : Same H H') (h : H a = some o) : H' a = some o := e a o h
theorem same_new {p : Addr} {u : HO} (hp : H p = none) : Same H (upd H p u) := fun _ _ h => keep h hp
theorem same_in {H0 : Hp} {p : Addr} {u : HO} (s : Same H0 H) (hp : H p = none) : Same H0 (upd H p u) := s.trans (same_new hp)
theorem free_of {p : Addr} {u : HO} {q : Addr} (h : upd H p u q = none) : H q = none := by
  unfold upd at h
  split at h
  · cases h
  · exact h
theorem ne_new {p : Addr} {u : HO} {q : Addr} (h : upd H p u q = none) : q ≠ p := fun e => by
  rw [e, upd_same] at h; cases h
theorem sqL (h : H a = some (.lst xs)) : SqL K H a xs := SqL.of h
theorem sqT (h : H a = some (.tup xs)) : SqT K H a xs := SqT.of h
theorem tyT (h : H a = some (.tup xs)) : TyX K H (.ref a) (.type "tuple") := .base (.tup h)
end
/-! ### isinstance -/
section
variable {K : PySem.W.Frag} {H : Hp} {Q : VK}
theorem i_int_int {n : Int} (q : Q (.bl true) H) : rIsi K [.int n, .ty "int"] H Q := w_isi (.ty _) (.base (.int n)) (kit_ty (a := "int") (b := "int") (r := true) (by decide +kernel)) q
theorem i_int_bool {n : Int} (q : Q (.bl false) H) : rIsi K [.int n, .ty "bool"] H Q := w_isi (.ty _) (.base (.int n)) (kit_ty (a := "int") (b := "bool") (r := false) (by decide +kernel)) q
theorem i_int_str {n : Int} (q : Q (.bl false) H) : rIsi K [.int n, .ty "str"] H Q := w_isi (.ty _) (.base (.int n)) (kit_ty (a := "int") (b := "str") (r := false) (by decide +kernel)) q
theorem i_int_list {n : Int} (q : Q (.bl false) H) : rIsi K [.int n, .ty "list"] H Q := w_isi (.ty _) (.base (.int n)) (kit_ty (a := "int") (b := "list") (r := false) (by decide +kernel)) q
theorem i_int_tuple {n : Int} (q : Q (.bl false) H) : rIsi K [.int n, .ty "tuple"] H Q := w_isi (.ty _) (.base (.int n)) (kit_ty (a := "int") (b := "tuple") (r := false) (by decide +kernel)) q
theorem i_bl_int {b : Bool} (q : Q (.bl true) H) : rIsi K [.bl b, .ty "int"] H Q := w_isi (.ty _) (.base (.bl b)) (kit_ty (a := "bool") (b := "int") (r := true) (by decide +kernel)) q
theorem i_bl_bool {b : Bool} (q : Q (.bl true) H) : rIsi K [.bl b, .ty "bool"] H Q := w_isi (.ty _) (.base (.bl b)) (kit_ty (a := "bool") (b := "bool") (r := true) (by decide +kernel)) q
theorem i_bl_str {b : Bool} (q : Q (.bl false) H) : rIsi K [.bl b, .ty "str"] H Q := w_isi (.ty _) (.base (.bl b)) (kit_ty (a := "bool") (b := "str") (r := false) (by decide +kernel)) q
theorem i_bl_list {b : Bool} (q : Q (.bl false) H) : rIsi K [.bl b, .ty "list"] H Q := w_isi (.ty _) (.base (.bl b)) (kit_ty (a := "bool") (b := "list") (r := false) (by decide +kernel)) q
theorem i_bl_tuple {b : Bool} (q : Q (.bl false) H) : rIsi K [.bl b, .ty "tuple"] H Q := w_isi (.ty _) (.base (.bl b)) (kit_ty (a := "bool") (b := "tuple") (r := false) (by decide +kernel)) q
theorem i_str_int {z : Str} (q : Q (.bl false) H) : rIsi K [.str z, .ty "int"] H Q := w_isi (.ty _) (.base (.str z)) (kit_ty (a := "str") (b := "int") (r := false) (by decide +kernel)) q
theorem i_str_bool {z : Str} (q : Q (.bl false) H) : rIsi K [.str z, .ty "bool"] H Q := w_isi (.ty _) (.base (.str z)) (kit_ty (a := "str") (b := "bool") (r := false) (by decide +kernel)) q
theorem i_str_str {z : Str} (q : Q (.bl true) H) : rIsi K [.str z, .ty "str"] H Q := w_isi (.ty _) (.base (.str z)) (kit_ty (a := "str") (b := "str") (r := true) (by decide +kernel)) q
theorem i_str_list {z : Str} (q : Q (.bl false) H) : rIsi K [.str z, .ty "list"] H Q := w_isi (.ty _) (.base (.str z)) (kit_ty (a := "str") (b := "list") (r := false) (by decide +kernel)) q
theorem i_str_tuple {z : Str} (q : Q (.bl false) H) : rIsi K [.str z, .ty "tuple"] H Q := w_isi (.ty _) (.base (.str z)) (kit_ty (a := "str") (b := "tuple") (r := false) (by decide +kernel)) q
theorem i_non_int (q : Q (.bl false) H) : rIsi K [.non, .ty "int"] H Q := w_isi (.ty _) (.base .non) (kit_ty (a := "NoneType") (b := "int") (r := false) (by decide +kernel)) q
theorem i_non_bool (q : Q (.bl false) H) : rIsi K [.non, .ty "bool"] H Q := w_isi (.ty _) (.base .non) (kit_ty (a := "NoneType") (b := "bool") (r := false) (by decide +kernel)) q
theorem i_non_str (q : Q (.bl false) H) : rIsi K [.non, .ty "str"] H Q := w_isi (.ty _) (.base .non) (kit_ty (a := "NoneType") (b := "str") (r := false) (by decide +kernel)) q
theorem i_non_list (q : Q (.bl false) H) : rIsi K [.non, .ty "list"] H Q := w_isi (.ty _) (.base .non) (kit_ty (a := "NoneType") (b := "list") (r := false) (by decide +kernel)) q
theorem i_non_tuple (q : Q (.bl false) H) : rIsi K [.non, .ty "tuple"] H Q := w_isi (.ty _) (.base .non) (kit_ty (a := "NoneType") (b := "tuple") (r := false) (by decide +kernel)) q
theorem i_lst_int {a : Addr} {xs : List V} (h : H a = some (.lst xs)) (q : Q (.bl false) H) : rIsi K [.ref a, .ty "int"] H Q := w_isi (.ty _) (.base (.lst h)) (kit_ty (a := "list") (b := "int") (r := false) (by decide +kernel)) q
theorem i_lst_bool {a : Addr} {xs : List V} (h : H a = some (.lst xs)) (q : Q (.bl false) H) : rIsi K [.ref a, .ty "bool"] H Q := w_isi (.ty _) (.base (.lst h)) (kit_ty (a := "list") (b := "bool") (r := false) (by decide +kernel)) q
theorem i_lst_str {a : Addr} {xs : List V} (h : H a = some (.lst xs)) (q : Q (.bl false) H) : rIsi K [.ref a, .ty "str"] H Q := w_isi (.ty _) (.base (.lst h)) (kit_ty (a := "list") (b := "str") (r := false) (by decide +kernel)) q
theorem i_lst_list {a : Addr} {xs : List V} (h : H a = some (.lst xs)) (q : Q (.bl true) H) : rIsi K [.ref a, .ty "list"] H Q := w_isi (.ty _) (.base (.lst h)) (kit_ty (a := "list") (b := "list") (r := true) (by decide +kernel)) q
theorem i_lst_tuple {a : Addr} {xs : List V} (h : H a = some (.lst xs)) (q : Q (.bl false) H) : rIsi K [.ref a, .ty "tuple"] H Q := w_isi (.ty _) (.base (.lst h)) (kit_ty (a := "list") (b := "tuple") (r := false) (by decide +kernel)) q
theorem i_tup_int {a : Addr} {xs : List V} (h : H a = some (.tup xs)) (q : Q (.bl false) H) : rIsi K [.ref a, .ty "int"] H Q := w_isi (.ty _) (.base (.tup h)) (kit_ty (a := "tuple") (b := "int") (r := false) (by decide +kernel)) q
theorem i_tup_bool {a : Addr} {xs : List V} (h : H a = some (.tup xs)) (q : Q (.bl false) H) : rIsi K [.ref a, .ty "bool"] H Q := w_isi (.ty _) (.base (.tup h)) (kit_ty (a := "tuple") (b := "bool") (r := false) (by decide +kernel)) q
theorem i_tup_str {a : Addr} {xs : List V} (h : H a = some (.tup xs)) (q : Q (.bl false) H) : rIsi K [.ref a, .ty "str"] H Q := w_isi (.ty _) (.base (.tup h)) (kit_ty (a := "tuple") (b := "str") (r := false) (by decide +kernel)) q
theorem i_tup_list {a : Addr} {xs : List V} (h : H a = some (.tup xs)) (q : Q (.bl false) H) : rIsi K [.ref a, .ty "list"] H Q := w_isi (.ty _) (.base (.tup h)) (kit_ty (a := "tuple") (b := "list") (r := false) (by decide +kernel)) q
theorem i_tup_tuple {a : Addr} {xs : List V} (h : H a = some (.tup xs)) (q : Q (.bl true) H) : rIsi K [.ref a, .ty "tuple"] H Q := w_isi (.ty _) (.base (.tup h)) (kit_ty (a := "tuple") (b := "tuple") (r := true) (by decide +kernel)) q
theorem i_dK_int {a : Addr} {kvs : List (Key × V)} (h : H a = some (.dK kvs)) (q : Q (.bl false) H) : rIsi K [.ref a, .ty "int"] H Q := w_isi (.ty _) (.base (.dK h)) (kit_ty (a := "dict") (b := "int") (r := false) (by decide +kernel)) q
theorem i_dK_bool {a : Addr} {kvs : List (Key × V)} (h : H a = some (.dK kvs)) (q : Q (.bl false) H) : rIsi K [.ref a, .ty "bool"] H Q := w_isi (.ty _) (.base (.dK h)) (kit_ty (a := "dict") (b := "bool") (r := false) (by decide +kernel)) q
theorem i_dK_str {a : Addr} {kvs : List (Key × V)} (h : H a = some (.dK kvs)) (q : Q (.bl false) H) : rIsi K [.ref a, .ty "str"] H Q := w_isi (.ty _) (.base (.dK h)) (kit_ty (a := "dict") (b := "str") (r := false) (by decide +kernel)) q
theorem i_dK_list {a : Addr} {kvs : List (Key × V)} (h : H a = some (.dK kvs)) (q : Q (.bl false) H) : rIsi K [.ref a, .ty "list"] H Q := w_isi (.ty _) (.base (.dK h)) (kit_ty (a := "dict") (b := "list") (r := false) (by decide +kernel)) q
theorem i_dK_tuple {a : Addr} {kvs : List (Key × V)} (h : H a = some (.dK kvs)) (q : Q (.bl false) H) : rIsi K [.ref a, .ty "tuple"] H Q := w_isi (.ty _) (.base (.dK h)) (kit_ty (a := "dict") (b := "tuple") (r := false) (by decide +kernel)) q
end
/-! ### loops -/
/-- a while by a family of states -/
def Wt {α : Type} (S : α → L2.St) (Pv : α → Hp → Prop) (μ : α → Nat) (m : Nat) (tb : TS) (D : Ends) (σ : L2.St) (H : Hp) : Prop :=
  ∃ N : L2.St → Hp → Prop, (∀ σ' H', N σ' H' → ∃ m', m' < m ∧ ∃ a', σ' = S a' ∧ Pv a' H' ∧ m' = μ a') ∧ tb { D with nx := N, ct := N, bk := D.nx } σ H
theorem w_while {α : Type} {c : TT} {tb : TS} {D : Ends} {σ : L2.St} {H : Hp} (S : α → L2.St) (Pv : α → Hp → Prop) (μ : α → Nat) (a0 : α) (e : σ = S a0) (h0 : Pv a0 H)
    (hs : ∀ a H, Pv a H → c (S a) H fun b H1 => if b = true then Wt S Pv μ (μ a) tb D (S a) H1 else D.nx (S a) H1) : tWhile c tb D σ H := by
  refine ⟨fun m σ H => ∃ a, σ = S a ∧ Pv a H ∧ m = μ a, ⟨_, a0, e, h0, rfl⟩, ?_⟩
  rintro m σ H ⟨a, rfl, p, rfl⟩
  exact hs a H p
theorem w_turn {α : Type} {tb : TS} {D : Ends} {σ : L2.St} {H : Hp} {S : α → L2.St} {Pv : α → Hp → Prop} {μ : α → Nat} {m : Nat}
    (h : tb { D with nx := fun σ' H' => ∃ a', σ' = S a' ∧ Pv a' H' ∧ μ a' < m, ct := fun σ' H' => ∃ a', σ' = S a' ∧ Pv a' H' ∧ μ a' < m, bk := D.nx } σ H) : Wt S Pv μ m tb D σ H :=
  ⟨_, fun _ _ ⟨a', e, p, l⟩ => ⟨_, l, a', e, p, rfl⟩, h⟩
section
variable {K : PySem.W.Frag} {σ : L2.St} {H : Hp} {D : Ends} {g : TG} {tb : TS} {tl : TE} {ta : TA}
theorem w_forI {wi : TI} (h : wi σ H fun J H1 => ∃ W : Nat → Nat → L2.St → Hp → Prop, (∃ m, W 0 m σ H1) ∧ ∀ i m σ H, W i m σ H →
    (J.stop i H ∧ D.nx σ H) ∨ (J.go i H ∧ ∃ N : L2.St → Hp → Prop, (∀ σ' H', N σ' H' → ∃ m', m' < m ∧ W (i + 1) m' σ' H') ∧ ∀ x H', J.yld i H x H' → g x σ H' fun σ2 H2 => tb { D with nx := N, ct := N, bk := D.nx } σ2 H2)) : tFor wi g tb D σ H := h
theorem w_iL {R : It → Hp → Prop} (h : tl σ H fun x H1 => ∃ a, x = .ref a ∧ (∃ xs, SqL K H1 a xs) ∧ R (Itl K a) H1) : iList K tl σ H R := h
theorem w_iT {R : It → Hp → Prop} (h : tl σ H fun x H1 => ∃ a, x = .ref a ∧ (∃ xs, SqT K H1 a xs) ∧ R (Itt K a) H1) : iTup K tl σ H R := h
theorem w_iR1 {R : It → Hp → Prop} (h : ta σ H fun vs H1 => ∃ j : Int, vs = [.int j] ∧ -(2 ^ 62) ≤ j ∧ j < 2 ^ 62 ∧ R (Itr 0 j.toNat) H1) : iRng1 ta σ H R := h
theorem w_iR2 {R : It → Hp → Prop} (h : ta σ H fun vs H1 => ∃ i j : Int, vs = [.int i, .int j] ∧ (-(2 ^ 62) ≤ i ∧ i < 2 ^ 62 ∧ -(2 ^ 62) ≤ j ∧ j < 2 ^ 62) ∧ R (Itr i (j - i).toNat) H1) : iRng2 ta σ H R := h
theorem w_yes {QB : Bool → Hp → Prop} (q : QB true H) : tYes σ H QB := q
theorem w_lc {wi : TI} {tt : TT} {te : TE} {vs : List Nat} {Q : VK} (h : wi σ H fun J H1 => ∀ D, H1 D = none → ∃ W : Nat → Nat → Hp → Prop, (∃ m, W 0 m (upd H1 D (.lst []))) ∧ ∀ i m H, W i m H →
  (J.stop i H ∧ Q (.ref D) H) ∨ (J.go i H ∧ ∃ Nx : Hp → Prop, (∀ H', Nx H' → ∃ m', m' < m ∧ W (i + 1) m' H') ∧ ∀ x H', J.yld i H x H' → g x (wipe σ vs) H' fun σ2 H2 => wipe σ2 vs = wipe σ vs ∧ tt σ2 H2 fun b H3 =>
    if b = true then te σ2 H3 fun y H4 => ∃ acc, H4 D = some (.lst acc) ∧ acc.length < sizeLine ∧ Nx (upd H4 D (.lst (acc ++ [y]))) else Nx H3)) : tLc wi g tt te vs σ H Q := h
end
/-! ### tests that are known -/
theorem if_t {c : Bool} {A B : Prop} (hc : c = true) (h : A) : if c = true then A else B := by rw [if_pos hc]; exact h
theorem if_f {c : Bool} {A B : Prop} (hc : c = false) (h : B) : if c = true then A else B := by rw [hc, if_neg Bool.false_ne_true]; exact h
theorem if_2 {c : Prop} [Decidable c] {A B : Prop} (h1 : c → A) (h2 : ¬ c → B) : if decide c = true then A else B := by
  by_cases h : c
  · exact if_t (decide_eq_true h) (h1 h)
  · exact if_f (decide_eq_false h) (h2 h)
theorem if_n2 {c : Prop} [Decidable c] {A B : Prop} (h1 : ¬ c → A) (h2 : c → B) : if (!decide c) = true then A else B := by
  by_cases h : c
  · exact if_f (by rw [decide_eq_true h]; rfl) (h2 h)
  · exact if_t (by rw [decide_eq_false h]; rfl) (h1 h)
theorem if_b {c : Bool} {A B : Prop} (h1 : c = true → A) (h2 : c = false → B) : if c = true then A else B := by
  cases c with
  | true => exact if_t rfl (h1 rfl)
  | false => exact if_f rfl (h2 rfl)
theorem V.int_inj {i j : Int} : (V.int i = V.int j) ↔ i = j := ⟨fun h => V.int.inj h, fun h => by rw [h]⟩
end Go

/-! The mathematics of pairs. -/
namespace Mth
theorem gcd_step (x y : Int) : Int.gcd y (x % y) = Int.gcd x y := by
  rw [Int.emod_def, Int.gcd_sub_mul_left_right, Int.gcd_comm]
/-- the pair of a by b: its two numbers -/
def pn (a b : Int) : Int := b.sign * a / (Int.gcd a b : Int)
def pd (a b : Int) : Int := (b.natAbs : Int) / (Int.gcd a b : Int)
theorem pair_ex {a b : Int} (hb : b ≠ 0) : ∃ g a' b' : Int, 0 < g ∧ g = Int.gcd a b ∧ a = g * a' ∧ b = g * b' ∧ Int.gcd a' b' = 1 ∧ b' ≠ 0 ∧ pn a b = b'.sign * a' ∧ pd a b = b'.natAbs := by
  have hg : 0 < Int.gcd a b := Int.gcd_pos_of_ne_zero_right a hb
  obtain ⟨a', ha⟩ := Int.gcd_dvd_left a b
  obtain ⟨b', hb'⟩ := Int.gcd_dvd_right a b
  have hg' : (0 : Int) < (Int.gcd a b : Int) := by omega
  generalize hG : (Int.gcd a b : Int) = g at *
  have nb : b' ≠ 0 := fun z => hb (by rw [hb', z, Int.mul_zero])
  have sg : g.sign = 1 := Int.sign_eq_one_of_pos hg'
  have ng : (g.natAbs : Int) = g := by omega
  have gc : Int.gcd a' b' = 1 := by
    have e := Int.gcd_mul_left g a' b'
    rw [← ha, ← hb'] at e
    have e1 : g.natAbs * Int.gcd a' b' = g.natAbs * 1 := by omega
    exact Nat.eq_of_mul_eq_mul_left (by omega) e1
  refine ⟨g, a', b', hg', rfl, ha, hb', gc, nb, ?_, ?_⟩
  · unfold pn
    rw [hG]
    have e : b.sign * a = g * (b'.sign * a') := by
      have e2 : b.sign = b'.sign := by rw [hb', Int.sign_mul, sg, Int.one_mul]
      have e3 : b.sign * a = b.sign * (g * a') := by rw [← ha]
      rw [e3, e2, ← Int.mul_assoc, Int.mul_comm b'.sign g, Int.mul_assoc]
    rw [e, Int.mul_ediv_cancel_left _ (by omega)]
  · unfold pd
    rw [hG]
    have e : (b.natAbs : Int) = g * (b'.natAbs : Int) := by
      rw [hb', Int.natAbs_mul, Int.natCast_mul, ng]
    rw [e, Int.mul_ediv_cancel_left _ (by omega)]
theorem sign_mul_self (b : Int) : b.sign * b = b.natAbs := by
  rcases Int.lt_trichotomy b 0 with h | h | h
  · rw [Int.sign_eq_neg_one_of_neg h]; omega
  · rw [h]; rfl
  · rw [Int.sign_eq_one_of_pos h]; omega
theorem pd_pos {a b : Int} (hb : b ≠ 0) : 0 < pd a b := by
  obtain ⟨g, a', b', _, _, _, _, _, nb, _, e⟩ := pair_ex (a := a) hb
  rw [e]; omega
theorem pn_cross {a b : Int} (hb : b ≠ 0) : pn a b * b = a * pd a b := by
  obtain ⟨g, a', b', hg, _, ha, hb', _, nb, e1, e2⟩ := pair_ex (a := a) hb
  rw [e1, e2, ← sign_mul_self]
  generalize b'.sign = s
  rw [ha, hb']
  simp only [Int.mul_assoc, Int.mul_left_comm, Int.mul_comm]
theorem natAbs_sign {b : Int} (hb : b ≠ 0) : b.sign.natAbs = 1 := by
  rcases Int.lt_or_gt_of_ne hb with h | h
  · rw [Int.sign_eq_neg_one_of_neg h]; rfl
  · rw [Int.sign_eq_one_of_pos h]; rfl
theorem gcd_sign {b x y : Int} (hb : b ≠ 0) : Int.gcd (b.sign * x) y = Int.gcd x y := by
  unfold Int.gcd
  rw [Int.natAbs_mul, natAbs_sign hb, Nat.one_mul]
theorem pair_cop {a b : Int} (hb : b ≠ 0) : Int.gcd (pn a b) (pd a b) = 1 := by
  obtain ⟨g, a', b', hg, _, ha, hb', gc, nb, e1, e2⟩ := pair_ex (a := a) hb
  rw [e1, e2, gcd_sign nb]
  unfold Int.gcd at gc ⊢
  rw [Int.natAbs_natCast]; exact gc
theorem pn_le {a b : Int} (hb : b ≠ 0) : (pn a b).natAbs ≤ a.natAbs := by
  obtain ⟨g, a', b', hg, _, ha, hb', gc, nb, e1, e2⟩ := pair_ex (a := a) hb
  rw [e1, Int.natAbs_mul, natAbs_sign nb, Nat.one_mul, ha, Int.natAbs_mul]
  exact Nat.le_mul_of_pos_left _ (by omega)
theorem pd_le {a b : Int} (hb : b ≠ 0) : (pd a b).natAbs ≤ b.natAbs := by
  obtain ⟨g, a', b', hg, _, ha, hb', gc, nb, e1, e2⟩ := pair_ex (a := a) hb
  rw [e2, Int.natAbs_natCast, hb', Int.natAbs_mul]
  exact Nat.le_mul_of_pos_left _ (by omega)
/-- halving both -/
theorem gcd_both {x y : Int} (hx : x % 2 = 0) (hy : y % 2 = 0) : Int.gcd x y = 2 * Int.gcd (x / 2) (y / 2) := by
  have e := Int.gcd_mul_left 2 (x / 2) (y / 2)
  rw [show (2 : Int) * (x / 2) = x by omega, show (2 : Int) * (y / 2) = y by omega] at e
  exact e
theorem gcd_odd {x y : Int} (hx : x % 2 = 0) (hy : ¬ y % 2 = 0) : Int.gcd x y = Int.gcd (x / 2) y := by
  have e : Int.gcd 2 y = 1 := by
    rw [Int.gcd_eq_one_iff]
    intro c h1 h2
    obtain ⟨k, hk⟩ := h1
    obtain ⟨m, hm⟩ := h2
    have e1 : (1 : Int) = y - 2 * (y / 2) := by omega
    rw [e1, hm]
    have e2 : c * m - 2 * (c * m / 2) = c * m - c * k * (c * m / 2) := by rw [← hk]
    rw [e2, Int.mul_assoc, ← Int.mul_sub]
    exact ⟨_, rfl⟩
  have e2 := Int.gcd_mul_right_left_of_gcd_eq_one (n := 2) (m := y) (k := x / 2) e
  rw [show (2 : Int) * (x / 2) = x by omega] at e2
  exact e2
end Mth

/-! The mathematics of parts. -/
namespace Mth
/-- the part of n by 2 ^ e -/
def prt : Int → Nat → Int × Nat
  | n, 0 => (n, 0)
  | n, e + 1 => if n % 2 = 0 then prt (n / 2) e else (n, e + 1)
theorem prt_even {n : Int} {e : Nat} (h : n % 2 = 0) : prt n (e + 1) = prt (n / 2) e := by rw [prt, if_pos h]
theorem prt_odd {n : Int} {e : Nat} (h : ¬ n % 2 = 0) : prt n (e + 1) = (n, e + 1) := by rw [prt, if_neg h]
theorem prt_zero : ∀ e : Nat, prt 0 e = (0, 0)
  | 0 => rfl
  | e + 1 => by rw [prt_even (by decide)]; exact prt_zero e
theorem prt_twice (n : Int) (e : Nat) : prt (2 * n) (e + 1) = prt n e := by
  rw [prt_even (by omega), show 2 * n / 2 = n by omega]
theorem prt_pow (n : Int) (e : Nat) : ∀ k : Nat, prt (n * 2 ^ k) (e + k) = prt n e
  | 0 => by rw [Int.pow_zero, Int.mul_one, Nat.add_zero]
  | k + 1 => by
    rw [Int.pow_succ, ← Int.mul_assoc, Int.mul_comm _ 2, ← Nat.add_assoc, prt_twice]
    exact prt_pow n e k
theorem prt_norm : ∀ (e : Nat) (n : Int), (prt n e).2 = 0 ∨ (prt n e).1 % 2 = 1
  | 0, n => .inl rfl
  | e + 1, n => by
    by_cases h : n % 2 = 0
    · rw [prt_even h]; exact prt_norm e _
    · rw [prt_odd h]; exact .inr (by show n % 2 = 1; omega)
theorem prt_self {n : Int} {e : Nat} (h : e = 0 ∨ n % 2 = 1) : prt n e = (n, e) := by
  cases e with
  | zero => rfl
  | succ e => exact prt_odd (by omega)
theorem prt_le : ∀ (e : Nat) (n : Int), (prt n e).1.natAbs ≤ n.natAbs ∧ (prt n e).2 ≤ e
  | 0, n => ⟨Nat.le_refl _, Nat.le_refl _⟩
  | e + 1, n => by
    by_cases h : n % 2 = 0
    · rw [prt_even h]
      have := prt_le e (n / 2)
      omega
    · rw [prt_odd h]; exact ⟨Nat.le_refl _, Nat.le_refl _⟩
theorem prt_worth : ∀ (e : Nat) (n : Int), (prt n e).1 * 2 ^ e = n * 2 ^ (prt n e).2
  | 0, n => rfl
  | e + 1, n => by
    by_cases h : n % 2 = 0
    · rw [prt_even h, Int.pow_succ, ← Int.mul_assoc, prt_worth e (n / 2)]
      rw [Int.mul_assoc, Int.mul_comm _ 2, ← Int.mul_assoc, show n / 2 * 2 = n by omega]
    · rw [prt_odd h]
/-- how the program reckons it -/
theorem prt_by {m : Int} (hm : ¬ m % 2 = 0) : ∀ (v e : Nat), prt (m * 2 ^ v) e = (m * 2 ^ v / 2 ^ min e v, e - min e v)
  | 0, e => by
    rw [Nat.min_zero, Int.pow_zero, Int.mul_one, Int.ediv_one]
    exact prt_self (by omega)
  | v + 1, 0 => by
    rw [Nat.zero_min, Int.pow_zero, Int.ediv_one]; rfl
  | v + 1, e + 1 => by
    rw [show min (e + 1) (v + 1) = min e v + 1 by omega, show e + 1 - (min e v + 1) = e - min e v by omega]
    have e1 : m * 2 ^ (v + 1) = 2 * (m * 2 ^ v) := by rw [Int.pow_succ, ← Int.mul_assoc, Int.mul_comm]
    have e2 : (2 : Int) ^ (min e v + 1) = 2 * 2 ^ min e v := by rw [Int.pow_succ, Int.mul_comm]
    rw [e1, prt_twice, prt_by hm v e, e2, Int.mul_ediv_mul_of_pos _ _ (by decide)]
theorem odd_ex : ∀ (k : Nat) (n : Int), n ≠ 0 → n.natAbs < 2 ^ k → ∃ (v : Nat) (m : Int), n = m * 2 ^ v ∧ ¬ m % 2 = 0
  | 0, n, h, hk => by rw [Nat.pow_zero] at hk; omega
  | k + 1, n, h, hk => by
    by_cases he : n % 2 = 0
    · rw [Nat.pow_succ] at hk
      obtain ⟨v, m, e, hm⟩ := odd_ex k (n / 2) (by omega) (by omega)
      refine ⟨v + 1, m, ?_, hm⟩
      rw [Int.pow_succ, ← Int.mul_assoc, ← e]; omega
    · exact ⟨0, n, by rw [Int.pow_zero, Int.mul_one], he⟩
theorem and_half (a b : Nat) : (a &&& b) = 2 * (a / 2 &&& b / 2) + (a % 2) * (b % 2) := by
  have h1 : (a &&& b) / 2 = a / 2 &&& b / 2 := Nat.and_div_two
  have h2 : (a &&& b) % 2 = (a % 2) * (b % 2) := by
    have e := Nat.and_mod_two_pow (a := a) (b := b) (n := 1)
    rw [Nat.pow_one] at e
    rw [e]
    rcases Nat.mod_two_eq_zero_or_one a with x | x <;> rcases Nat.mod_two_eq_zero_or_one b with y | y <;> rw [x, y] <;> rfl
  omega
theorem low_nat (t : Nat) : ∀ v : Nat, (((2 * t + 1) * 2 ^ v) &&& ((2 * t + 1) * 2 ^ v - 1)) = 2 * t * 2 ^ v
  | 0 => by
    rw [Nat.pow_zero, Nat.mul_one, Nat.mul_one, and_half]
    rw [show (2 * t + 1) / 2 = t by omega, show (2 * t + 1 - 1) / 2 = t by omega, show (2 * t + 1 - 1) % 2 = 0 by omega, Nat.mul_zero, Nat.add_zero, Nat.and_self]
  | v + 1 => by
    have ih := low_nat t v
    have e1 : (2 * t + 1) * 2 ^ (v + 1) = 2 * ((2 * t + 1) * 2 ^ v) := by rw [Nat.pow_succ, ← Nat.mul_assoc, Nat.mul_comm]
    have e2 : 2 * t * 2 ^ (v + 1) = 2 * (2 * t * 2 ^ v) := by rw [Nat.pow_succ, ← Nat.mul_assoc, Nat.mul_comm]
    have hp : 0 < (2 * t + 1) * 2 ^ v := Nat.mul_pos (by omega) (Nat.pow_pos (by decide))
    rw [e1, e2, and_half]
    generalize (2 * t + 1) * 2 ^ v = w at *
    rw [show 2 * w / 2 = w by omega, show (2 * w - 1) / 2 = w - 1 by omega, show 2 * w % 2 = 0 by omega, Nat.zero_mul, Nat.add_zero, ih]
open PySem PyProof.Rows in
theorem low_pos {m : Int} {v : Nat} (h0 : 0 < m) (hm : ¬ m % 2 = 0) : Builtin.bitAnd (m * 2 ^ v) (0 - m * 2 ^ v) = 2 ^ v := by
  obtain ⟨t, rfl⟩ : ∃ t : Nat, m = ((2 * t + 1 : Nat) : Int) := ⟨(m / 2).toNat, by omega⟩
  have hc : ((2 * t + 1 : Nat) : Int) * 2 ^ v = (((2 * t + 1) * 2 ^ v : Nat) : Int) := by
    rw [Int.natCast_mul, Int.natCast_pow]; rfl
  have hp : 0 < (2 * t + 1) * 2 ^ v := Nat.mul_pos (by omega) (Nat.pow_pos (by decide))
  have low := low_nat t v
  rw [hc]
  have e : (0 : Int) - (((2 * t + 1) * 2 ^ v : Nat) : Int) = Builtin.bitNot ((((2 * t + 1) * 2 ^ v - 1 : Nat)) : Int) := by
    show _ = -((((2 * t + 1) * 2 ^ v - 1 : Nat)) : Int) - 1
    omega
  rw [e, bitAnd_not, bitAnd_pp (Int.natCast_nonneg _) (Int.natCast_nonneg _), Int.toNat_natCast, Int.toNat_natCast, low]
  have e3 : (2 * t + 1) * 2 ^ v = 2 * t * 2 ^ v + 2 ^ v := by rw [Nat.add_mul, Nat.one_mul]
  rw [e3, Int.natCast_add]
  have e4 : (((2 : Nat) ^ v : Nat) : Int) = 2 ^ v := by rw [Int.natCast_pow]; rfl
  rw [e4]; omega
open PySem PyProof.Rows in
theorem low_bit {m : Int} {v : Nat} (hm : ¬ m % 2 = 0) : Builtin.bitAnd (m * 2 ^ v) (0 - m * 2 ^ v) = 2 ^ v := by
  rcases Int.lt_or_gt_of_ne (show m ≠ 0 by omega) with h | h
  · have e := low_pos (m := -m) (v := v) (by omega) (by omega)
    rw [bitAnd_comm]
    have e1 : -m * 2 ^ v = 0 - m * 2 ^ v := by rw [Int.neg_mul]; omega
    rw [e1] at e
    have e2 : 0 - (0 - m * 2 ^ v) = m * 2 ^ v := by omega
    rw [e2] at e
    exact e
  · exact low_pos h hm
open PySem in
theorem low_bits (v : Nat) : (Builtin.Int.intBits ((2 : Int) ^ v) : Int) - 1 = v := by
  unfold Builtin.Int.intBits
  have hp : 0 < (2 : Nat) ^ v := Nat.pow_pos (by decide)
  have hc : ((2 : Int) ^ v) = (((2 : Nat) ^ v : Nat) : Int) := by rw [Int.natCast_pow]; rfl
  have hn : ¬ (((2 : Int) ^ v) == 0) = true := by
    rw [hc]; simp; omega
  rw [if_neg hn, hc, Int.natAbs_natCast, Nat.log2_two_pow]
  omega
end Mth

namespace Sum
open PySem PySem.Spec PyProof.Rows L2 Go
local macro_rules | `(tactic| walk_at "isi") => `(tactic| first
  | with_reducible refine Go.i_int_int ?_
  | with_reducible refine Go.i_int_bool ?_
  | with_reducible refine Go.i_int_str ?_
  | with_reducible refine Go.i_int_list ?_
  | with_reducible refine Go.i_int_tuple ?_
  | with_reducible refine Go.i_bl_int ?_
  | with_reducible refine Go.i_bl_bool ?_
  | with_reducible refine Go.i_bl_str ?_
  | with_reducible refine Go.i_bl_list ?_
  | with_reducible refine Go.i_bl_tuple ?_
  | with_reducible refine Go.i_str_int ?_
  | with_reducible refine Go.i_str_bool ?_
  | with_reducible refine Go.i_str_str ?_
  | with_reducible refine Go.i_str_list ?_
  | with_reducible refine Go.i_str_tuple ?_
  | with_reducible refine Go.i_non_int ?_
  | with_reducible refine Go.i_non_bool ?_
  | with_reducible refine Go.i_non_str ?_
  | with_reducible refine Go.i_non_list ?_
  | with_reducible refine Go.i_non_tuple ?_
  | ((with_reducible refine' Go.i_lst_int ?hh ?_); (case hh => walk_at "heap"))
  | ((with_reducible refine' Go.i_lst_bool ?hh ?_); (case hh => walk_at "heap"))
  | ((with_reducible refine' Go.i_lst_str ?hh ?_); (case hh => walk_at "heap"))
  | ((with_reducible refine' Go.i_lst_list ?hh ?_); (case hh => walk_at "heap"))
  | ((with_reducible refine' Go.i_lst_tuple ?hh ?_); (case hh => walk_at "heap"))
  | ((with_reducible refine' Go.i_tup_int ?hh ?_); (case hh => walk_at "heap"))
  | ((with_reducible refine' Go.i_tup_bool ?hh ?_); (case hh => walk_at "heap"))
  | ((with_reducible refine' Go.i_tup_str ?hh ?_); (case hh => walk_at "heap"))
  | ((with_reducible refine' Go.i_tup_list ?hh ?_); (case hh => walk_at "heap"))
  | ((with_reducible refine' Go.i_tup_tuple ?hh ?_); (case hh => walk_at "heap"))
  | ((with_reducible refine' Go.i_dK_int ?hh ?_); (case hh => walk_at "heap"))
  | ((with_reducible refine' Go.i_dK_bool ?hh ?_); (case hh => walk_at "heap"))
  | ((with_reducible refine' Go.i_dK_str ?hh ?_); (case hh => walk_at "heap"))
  | ((with_reducible refine' Go.i_dK_list ?hh ?_); (case hh => walk_at "heap"))
  | ((with_reducible refine' Go.i_dK_tuple ?hh ?_); (case hh => walk_at "heap")))
local macro_rules | `(tactic| walk_at "heap") => `(tactic| first | assumption | exact upd_same | (refine Go.keep ?_ (by assumption); walk_at "heap") | (refine Go.get (by assumption) ?_; walk_at "heap"))
local macro_rules | `(tactic| walk_at "s") => `(tactic| first
  | with_reducible refine Go.w_seq ?_
  | with_reducible refine Go.w_asg ?_
  | with_reducible refine Go.w_op ?_
  | ((with_reducible refine' Go.w_var ?hh ?_); (case hh => exact rfl))
  | with_reducible refine Go.w_con ?_
  | with_reducible refine Go.w_I0 ?_
  | ((with_reducible refine Go.w_mulI ?hh ?_); (case hh => first | exact Or.inl ⟨by decide, by decide⟩ | exact Or.inr ⟨by decide, by decide⟩))
  | ((with_reducible refine Go.w_modI ?hh ?_); (case hh => first | decide | omega))
  | ((with_reducible refine Go.w_divI ?hh ?_); (case hh => exact ⟨by decide +kernel, by decide +kernel⟩))
  | ((with_reducible refine Go.w_powI ?hh ?_); (case hh => exact ⟨by decide +kernel, by decide +kernel, by decide +kernel⟩))
  | ((with_reducible refine Go.w_shrI ?hh ?_); (case hh => first | decide | omega))
  | with_reducible refine Go.w_if ?_
  | with_reducible refine Go.w_test ?_
  | with_reducible refine Go.w_tB ?_
  | with_reducible refine Go.w_k ?_
  | with_reducible refine Go.w_call ?_
  | with_reducible refine Go.w_cons ?_
  | with_reducible refine Go.w_nil ?_
  | with_reducible refine Go.w_ret ?_
  | with_reducible refine Go.w_cb ?_
  | with_reducible refine Go.w_tup ?_
  | with_reducible refine Go.w_lst ?_
  | ((with_reducible refine Go.w_eq ?hh ?_); (case hh => exact rfl))
  | ((with_reducible refine Go.w_ne ?hh ?_); (case hh => exact rfl))
  | with_reducible refine Go.w_or ?_
  | with_reducible refine Go.w_and ?_
  | with_reducible refine Go.w_not ?_
  | with_reducible refine Go.w_next ?_
  | with_reducible refine Go.w_drop ?_
  | with_reducible refine Go.w_un ?_
  | with_reducible refine Go.w_U ?_
  | with_reducible refine Go.w_orV ?_
  | with_reducible refine Go.w_andV ?_
  | with_reducible refine Go.w_notV ?_
  | with_reducible refine Go.w_orT ?_
  | with_reducible refine Go.w_andT ?_
  | with_reducible refine Go.w_truI ?_
  | with_reducible refine Go.w_isB ?_
  | with_reducible refine Go.w_notB ?_
  | with_reducible refine Go.w_isN ?_
  | with_reducible refine Go.w_notN ?_
  | with_reducible refine Go.w_chain ?_
  | with_reducible refine Go.w_ifE ?_
  | with_reducible refine Go.w_abs ?_
  | with_reducible refine Go.w_intB ?_
  | with_reducible refine Go.w_sub ?_
  | with_reducible refine Go.w_par ?_
  | with_reducible refine Go.w_sl ?_
  | with_reducible refine Go.w_noPart ?_
  | with_reducible refine Go.w_part ?_
  | with_reducible refine Go.w_partI ?_
  | ((with_reducible refine' Go.w_ixT ?h1 ?h2 ?_); (case h1 => (apply Go.sqT; walk_at "heap")); (case h2 => exact rfl))
  | ((with_reducible refine' Go.w_ixL ?h1 ?h2 ?_); (case h1 => (apply Go.sqL; walk_at "heap")); (case h2 => exact rfl))
  | ((with_reducible refine' Go.w_lenT ?h1 ?_); (case h1 => (apply Go.sqT; walk_at "heap")))
  | ((with_reducible refine' Go.w_lenL ?h1 ?_); (case h1 => (apply Go.sqL; walk_at "heap")))
  | ((with_reducible refine' Go.w_ixsT ?h1 ?h2 ?_); (case h1 => (apply Go.sqT; walk_at "heap")); (case h2 => exact rfl))
  | ((with_reducible refine' Go.w_ixsL ?h1 ?h2 ?_); (case h1 => (apply Go.sqL; walk_at "heap")); (case h2 => exact rfl))
  | with_reducible refine Go.w_min2 ?_
  | with_reducible refine Go.w_max2 ?_
  | with_reducible refine Go.w_bits ?_
  | with_reducible refine Go.w_bitsI ?_
  | with_reducible refine Go.w_gName ?_
  | ((with_reducible refine' Go.w_gTup ?h1 ?h2 ?_); (case h1 => (apply Go.sqT; walk_at "heap")); (case h2 => exact rfl))
  | with_reducible refine Go.w_gCons ?_
  | with_reducible refine Go.w_gNil ?_
  | with_reducible refine Go.w_asgG ?_
  | walk_at "isi"
  | with_reducible refine Go.w_forI ?_
  | with_reducible refine Go.w_iL ?_
  | with_reducible refine Go.w_iT ?_
  | with_reducible refine Go.w_iR1 ?_
  | with_reducible refine Go.w_iR2 ?_
  | with_reducible refine Go.w_lc ?_
  | ((with_reducible refine Go.if_t ?hh ?_); (case hh => exact rfl))
  | ((with_reducible refine Go.if_f ?hh ?_); (case hh => exact rfl)))
local macro_rules | `(tactic| walk_at "go") => `(tactic| repeat (walk_at "s"))

/-! ### promises: pairs -/
def Bits (n : Nat) (i : Int) : Prop := i.natAbs < 2 ^ n
def spDivisor : Sp := fun vs H Q _ => ∃ a b : Int, vs = [.int a, .int b] ∧ 0 ≤ a ∧ 0 ≤ b ∧ Q (.int (Int.gcd a b)) H
def spPair : Sp := fun vs H Q _ => ∃ a b : Int, vs = [.int a, .int b] ∧ b ≠ 0 ∧ Bits 9000 b ∧ ∀ p, H p = none → Q (.ref p) (upd H p (.tup [.int (Mth.pn a b), .int (Mth.pd a b)]))
/-- of a whole number, and of what is none -/
def spWhole (K : PySem.W.Frag) : Sp := fun vs H Q _ => (∃ n : Int, vs = [.int n] ∧ Q (.bl true) H) ∨ (∃ b : Bool, vs = [.bl b] ∧ Q (.bl false) H) ∨ (∃ z : Str, vs = [.str z] ∧ Q (.bl false) H) ∨ (vs = [.non] ∧ Q (.bl false) H) ∨
  (∃ (a : Addr) (xs : List V), vs = [.ref a] ∧ (H a = some (.lst xs) ∨ H a = some (.tup xs)) ∧ Q (.bl false) H) ∨ (∃ (a : Addr) (kvs : List (Key × V)), vs = [.ref a] ∧ H a = some (.dK kvs) ∧ Q (.bl false) H)
/-- of two whole numbers -/
def spIsPair (K : PySem.W.Frag) : Sp := fun vs H Q _ => ∃ (p : Addr) (a b : Int), vs = [.ref p] ∧ H p = some (.tup [.int a, .int b]) ∧ Q (.bl (decide (1 ≤ b) && decide (Int.gcd a b = 1))) H

-- names: 0:thing
abbrev N_is_whole_number : List Str := ["thing"]
def t_is_whole_number (K : PySem.W.Frag) : TS :=
  (tRet (tAndV (tCB (rIsi K) (tCons (tVar 0) (tCons (tC (.ty "int")) tNil))) (tNotV (tCB (rIsi K) (tCons (tVar 0) (tCons (tC (.ty "bool")) tNil))))))

-- names: 0:one 1:other
abbrev N_divisor : List Str := ["one", "other"]
def t_divisor (K : PySem.W.Frag) : TS :=
  (tSeq (tWhile (tTest (tOp rNe (tVar 1) (tC (.int 0)))) (tPar 0 1 (tCons (tVar 1) (tCons (tOp rModI (tVar 0) (tVar 1)) tNil))))
    (tRet (tVar 0)))

-- names: 0:num 1:den 2:most
abbrev N_pair : List Str := ["num", "den", "most"]
def t_pair (K : PySem.W.Frag) : TS :=
  (tSeq (tIfS (tTest (tOp rLtI (tVar 1) (tC (.int 0)))) (tSeq (tAsg (tOp rSubI (tC (.int 0)) (tVar 0)) (gName 0))
      (tAsg (tOp rSubI (tC (.int 0)) (tVar 1)) (gName 1))) tNext)
    (tSeq (tAsg (tCall spDivisor [] E0 (tCons (tCB rAbs (tCons (tVar 0) tNil)) (tCons (tVar 1) tNil))) (gName 2))
    (tRet (tTup (tCons (tOp rDivI (tVar 0) (tVar 2)) (tCons (tOp rDivI (tVar 1) (tVar 2)) tNil))))))

-- names: 0:thing
abbrev N_is_pair : List Str := ["thing"]
def t_is_pair (K : PySem.W.Frag) : TS :=
  (tSeq (tIfS (tOr (tNot (tB (tCB (rIsi K) (tCons (tVar 0) (tCons (tC (.ty "tuple")) tNil))))) (tTest (tOp rNe (tCB (Evl.rLenS K) (tCons (tVar 0) tNil)) (tC (.int 2))))) (tRet (tC (.bl false))) tNext)
    (tSeq (tIfS (tOr (tNot (tB (tCall (spWhole K) [] E0 (tCons (tOp (rIxT K) (tVar 0) (tC (.int 0))) tNil)))) (tOr (tNot (tB (tCall (spWhole K) [] E0 (tCons (tOp (rIxT K) (tVar 0) (tC (.int 1))) tNil)))) (tTest (tOp rLtI (tOp (rIxT K) (tVar 0) (tC (.int 1))) (tC (.int 1)))))) (tRet (tC (.bl false))) tNext)
    (tRet (tOp rEq (tCall spDivisor [] E0 (tCons (tCB rAbs (tCons (tOp (rIxT K) (tVar 0) (tC (.int 0))) tNil)) (tCons (tOp (rIxT K) (tVar 0) (tC (.int 1))) tNil))) (tC (.int 1))))))


theorem divW {i j : Int} (h : 0 < j) (hb : Bits 9000 j) : CDivW i j := wide_div h hb (by decide) (Nat.le_refl _)
theorem p_is_whole_number_len {K : PySem.W.Frag} {vs : List V} {H : Hp} {Q : VK} {E : XK} (h : spWhole K vs H Q E) : vs.length = 1 := by
  rcases h with ⟨n, rfl, _⟩ | ⟨n, rfl, _⟩ | ⟨n, rfl, _⟩ | ⟨rfl, _⟩ | ⟨a, xs, rfl, _⟩ | ⟨a, kvs, rfl, _⟩ <;> rfl
theorem p_is_whole_number {K : PySem.W.Frag} {vs : List V} {H : Hp} {Q : VK} {E : XK} (h : spWhole K vs H Q E) : t_is_whole_number K { nx := fun _ H' => Q .non H', rt := Q } (start N_is_whole_number vs) H := by
  unfold t_is_whole_number
  rcases h with ⟨n, rfl, q⟩ | ⟨n, rfl, q⟩ | ⟨n, rfl, q⟩ | ⟨rfl, q⟩ | ⟨a, xs, rfl, h | h, q⟩ | ⟨a, kvs, rfl, h, q⟩ <;> (walk_at "go"; exact q)
theorem p_divisor_len {vs : List V} {H : Hp} {Q : VK} {E : XK} (h : spDivisor vs H Q E) : vs.length = 2 := by
  obtain ⟨a, b, rfl, _⟩ := h; rfl
theorem p_divisor {K : PySem.W.Frag} {vs : List V} {H : Hp} {Q : VK} {E : XK} (h : spDivisor vs H Q E) : t_divisor K { nx := fun _ H' => Q .non H', rt := Q } (start N_divisor vs) H := by
  obtain ⟨a, b, rfl, ha, hb, q⟩ := h
  unfold t_divisor
  walk_at "go"
  refine w_while (fun (p : Int × Int) => [some (.int p.1), some (.int p.2)]) (fun p H' => H' = H ∧ 0 ≤ p.1 ∧ 0 ≤ p.2 ∧ Int.gcd p.1 p.2 = Int.gcd a b) (fun p => p.2.toNat) (a, b) rfl ⟨rfl, ha, hb, rfl⟩ ?_
  rintro ⟨x, y⟩ H' ⟨rfl, hx, hy, e⟩
  simp only at hx hy e ⊢
  walk_at "go"
  refine if_n2 (fun h => ?_) (fun h => ?_)
  · have hy0 : y ≠ 0 := fun z => h (by rw [z])
    have hy1 : 0 < y := by omega
    refine w_turn ?_
    walk_at "go"
    refine ⟨_, _, rfl, (y, x % y), rfl, ⟨rfl, hy, Int.emod_nonneg _ hy0, ?_⟩, ?_⟩
    · show Int.gcd y (x % y) = Int.gcd a b
      rw [← e, Mth.gcd_step]
    · have := Int.emod_lt_of_pos x hy1
      have := Int.emod_nonneg x hy0
      show (x % y).toNat < y.toNat
      omega
  · have hy0 : y = 0 := V.int.inj h
    subst hy0
    walk_at "go"
    rw [Int.gcd_zero] at e
    have : x = (Int.gcd a b : Int) := by rw [← e]; omega
    rw [this]
    exact q
theorem p_pair_len {vs : List V} {H : Hp} {Q : VK} {E : XK} (h : spPair vs H Q E) : vs.length = 2 := by
  obtain ⟨a, b, rfl, _⟩ := h; rfl
theorem gcdBits {a b : Int} {n : Nat} (h0 : b ≠ 0) (h : Bits n b) : Bits n (Int.gcd a b : Int) := by
  have := Int.gcd_le_natAbs_right a h0
  unfold Bits at h ⊢
  omega
theorem p_pair {K : PySem.W.Frag} {vs : List V} {H : Hp} {Q : VK} {E : XK} (h : spPair vs H Q E) : t_pair K { nx := fun _ H' => Q .non H', rt := Q } (start N_pair vs) H := by
  obtain ⟨a, b, rfl, hb, bb, q⟩ := h
  have hg : 0 < Int.gcd a b := Int.gcd_pos_of_ne_zero_right a hb
  have hB := gcdBits (a := a) hb bb
  unfold t_pair
  walk_at "go"
  refine if_2 (fun h => ?_) (fun h => ?_)
  · walk_at "go"
    refine ⟨_, _, rfl, by omega, by omega, ?_⟩
    have e1 : Int.gcd ((0 - a).natAbs : Int) (0 - b) = Int.gcd a b := by
      unfold Int.gcd; congr 1 <;> omega
    rw [e1]
    walk_at "go"
    refine w_I (divW (by omega) hB) ?_
    walk_at "go"
    refine w_I (divW (by omega) hB) ?_
    walk_at "go"
    refine ⟨by show 2 ≤ sizeLine; decide, fun p hp => ?_⟩
    have e2 : (0 - a) / (Int.gcd a b : Int) = Mth.pn a b := by
      unfold Mth.pn
      rw [Int.sign_eq_neg_one_of_neg h]; congr 1; omega
    have e3 : (0 - b) / (Int.gcd a b : Int) = Mth.pd a b := by
      unfold Mth.pd
      congr 1; omega
    rw [e2, e3]
    exact q p hp
  · walk_at "go"
    refine ⟨_, _, rfl, by omega, by omega, ?_⟩
    have e1 : Int.gcd (a.natAbs : Int) b = Int.gcd a b := by
      unfold Int.gcd; rw [Int.natAbs_natCast]
    rw [e1]
    walk_at "go"
    refine w_I (divW (by omega) hB) ?_
    walk_at "go"
    refine w_I (divW (by omega) hB) ?_
    walk_at "go"
    refine ⟨by show 2 ≤ sizeLine; decide, fun p hp => ?_⟩
    have e2 : a / (Int.gcd a b : Int) = Mth.pn a b := by
      unfold Mth.pn
      rw [Int.sign_eq_one_of_pos (by omega)]; congr 1; omega
    have e3 : b / (Int.gcd a b : Int) = Mth.pd a b := by
      unfold Mth.pd
      congr 1; omega
    rw [e2, e3]
    exact q p hp
theorem p_is_pair_len {K : PySem.W.Frag} {vs : List V} {H : Hp} {Q : VK} {E : XK} (h : spIsPair K vs H Q E) : vs.length = 1 := by
  obtain ⟨a, b, c, rfl, _⟩ := h; rfl
theorem p_is_pair {K : PySem.W.Frag} {vs : List V} {H : Hp} {Q : VK} {E : XK} (h : spIsPair K vs H Q E) : t_is_pair K { nx := fun _ H' => Q .non H', rt := Q } (start N_is_pair vs) H := by
  obtain ⟨p, a, b, rfl, hp, q⟩ := h
  unfold t_is_pair
  walk_at "go"
  refine .inl ⟨_, rfl, ?_⟩
  walk_at "go"
  refine .inl ⟨_, rfl, ?_⟩
  walk_at "go"
  refine if_2 (fun h => ?_) (fun h => ?_)
  · walk_at "go"
    rw [decide_eq_false (by omega)] at q
    exact q
  · rw [decide_eq_true (by omega), Bool.true_and] at q
    walk_at "go"
    refine ⟨_, _, rfl, by omega, by omega, ?_⟩
    walk_at "go"
    have e : decide (V.int ((Int.gcd (a.natAbs : Int) b : Nat) : Int) = V.int 1) = decide (Int.gcd a b = 1) := by
      have e1 : Int.gcd (a.natAbs : Int) b = Int.gcd a b := by
        unfold Int.gcd; rw [Int.natAbs_natCast]
      rw [e1]
      refine decide_eq_decide.mpr ⟨fun h => ?_, fun h => ?_⟩
      · have := V.int.inj h; omega
      · rw [h]; rfl
    rw [e]
    exact q

/-! ### promises: what the law draws by -/
def Src (H : Hp) (l : Addr) : Prop := ∃ a b c : Int, H l = some (.lst [.int a, .int b, .int c])
/-- by a draw the source alone has changed -/
structure Dr (l : Addr) (H H' : Hp) : Prop where
  keep : ∀ p o, p ≠ l → H p = some o → H' p = some o
  src0 : Src H l
  src : Src H' l
theorem Dr.trans {l : Addr} {H H1 H2 : Hp} (a : Dr l H H1) (b : Dr l H1 H2) : Dr l H H2 := ⟨fun p o n h => b.keep p o n (a.keep p o n h), a.src0, b.src⟩
theorem Dr.refl {l : Addr} {H : Hp} (s : Src H l) : Dr l H H := ⟨fun _ _ _ h => h, s, s⟩
theorem Dr.tup {l : Addr} {H H' : Hp} {a : Addr} {xs : List V} (d : Dr l H H') (h : H a = some (.tup xs)) : H' a = some (.tup xs) := by
  obtain ⟨x, y, z, e⟩ := d.src0
  exact d.keep a _ (ne_of h e (by intro z; cases z)) h
theorem Dr.free {l : Addr} {H H' : Hp} {p : Addr} (d : Dr l H H') (h : H' p = none) : H p = none := by
  obtain ⟨x, y, z, e⟩ := d.src
  cases q : H p with
  | none => rfl
  | some o =>
    by_cases n : p = l
    · rw [n, e] at h; cases h
    · rw [d.keep p o n q] at h; cases h
theorem Src.ext {l : Addr} {H H' : Hp} (s : Src H l) (e : Same H H') : Src H' l := by
  obtain ⟨x, y, z, h⟩ := s
  exact ⟨x, y, z, e _ _ h⟩
theorem Dr.same {l : Addr} {H H' : Hp} (s : Src H l) (e : Same H H') : Dr l H H' := ⟨fun p o _ h => e p o h, s, s.ext e⟩
theorem Dr.new {l : Addr} {H H' : Hp} {p : Addr} {o : HO} (d : Dr l H H') (hp : H' p = none) : Dr l H (upd H' p o) := d.trans (Dr.same d.src (same_new hp))
theorem Src.new {l : Addr} {H : Hp} {p : Addr} {o : HO} (s : Src H l) (hp : H p = none) : Src (upd H p o) l := s.ext (same_new hp)
/-- what H0 had stays while a thing that H0 had not is drawn by -/
theorem Dr.same_of {l : Addr} {H0 H H' : Hp} (d : Dr l H H') (s : Same H0 H) (hl : H0 l = none) : Same H0 H' := fun p o h => d.keep p o (ne_of_none h hl) (s p o h)
def spCellAt (K : PySem.W.Frag) : Sp := fun vs H Q _ => ∃ (a : Addr) (ns : List Int) (k : Nat), vs = [.ref a, .int k] ∧ SqL K H a (ns.map V.int) ∧ ∀ n : Int, Q (.int n) H
def spBegin : Sp := fun vs H Q _ => ∃ n : Int, vs = [.int n] ∧ ∀ l H', H l = none → Same H H' → Src H' l → Q (.ref l) H'
def spDraw : Sp := fun vs H Q _ => ∃ (l : Addr) (m : Int), vs = [.ref l, .int m] ∧ Src H l ∧ 0 < m ∧ m.natAbs < 2 ^ 200 ∧ ∀ d H', 0 ≤ d → d < m → Dr l H H' → Q (.int d) H'
def spFar : Sp := fun vs H Q _ => ∃ l : Addr, vs = [.ref l] ∧ Src H l ∧ ∀ n H', Bits 200 n → Dr l H H' → Q (.int n) H'

-- names: 0:_law_script 1:_law_k
abbrev N_l_cell_at : List Str := ["_law_script", "_law_k"]
def t_l_cell_at (K : PySem.W.Frag) : TS :=
  (tSeq (tIfS (tTest (tOp rLtI (tVar 1) (tCB (Evl.rLenS K) (tCons (tVar 0) tNil)))) (tRet (tOp (rIxL K) (tVar 0) (tVar 1))) tNext)
    (tRet (tC (.int 0))))

-- names: 0:_law_cell
abbrev N_l_begin : List Str := ["_law_cell"]
def t_l_begin (K : PySem.W.Frag) : TS :=
  (tRet (tLst (tCons (tOp (rIxL K) (tLst (tCons (tC (.int 0)) (tCons (tVar 0) tNil))) (tCB rInt1 (tCons (tOp rGeI (tVar 0) (tOp rPowI (tC (.int 10)) (tC (.int 18)))) tNil))) (tCons (tOp rModI (tVar 0) (tC (.int 2147483647))) (tCons (tC (.int 0)) tNil)))))

-- names: 0:_law_source 1:_law_most 2:_law_found 3:_law_number
abbrev N_l_draw : List Str := ["_law_source", "_law_most", "_law_found", "_law_number"]
def t_l_draw (K : PySem.W.Frag) : TS :=
  (tSeq (tIfS (tTest (tOp rGtI (tOp (rIxL K) (tVar 0) (tC (.int 0))) (tC (.int 0)))) (tSeq (tAsg (tOp rModI (tOp (rIxL K) (tVar 0) (tC (.int 0))) (tVar 1)) (gName 2))
      (tSeq (tAsg (tOp rDivI (tOp (rIxL K) (tVar 0) (tC (.int 0))) (tVar 1)) (gSub (tVar 0) (tC (.int 0)) rSetL))
      (tRet (tVar 2)))) tNext)
    (tSeq (tAsg (tOp rAddI (tOp (rIxL K) (tVar 0) (tC (.int 2))) (tC (.int 1))) (gSub (tVar 0) (tC (.int 2)) rSetL))
    (tSeq (tAsg (tOp rModI (tOp rMulI (tOp rAddI (tOp rAddI (tOp (rIxL K) (tVar 0) (tC (.int 1))) (tOp rMulI (tC (.int 7919)) (tOp (rIxL K) (tVar 0) (tC (.int 2))))) (tC (.int 1))) (tC (.int 48271))) (tC (.int 2147483647))) (gName 3))
    (tSeq (tAsg (tOp rModI (tOp rMulX (tVar 3) (tOp rAddI (tOp rDivI (tVar 3) (tC (.int 1009))) (tC (.int 69621)))) (tC (.int 2147483647))) (gName 3))
    (tRet (tOp rModI (tOp rModI (tOp rMulX (tVar 3) (tOp rAddI (tOp rDivI (tVar 3) (tC (.int 2003))) (tC (.int 40692)))) (tC (.int 2147483399))) (tVar 1)))))))

-- names: 0:_law_source 1:_law_way 2:_law_small 3:_law_great 4:_law_k 5:_law_twos
abbrev N_l_far : List Str := ["_law_source", "_law_way", "_law_small", "_law_great", "_law_k", "_law_twos"]
def t_l_far (K : PySem.W.Frag) : TS :=
  (tSeq (tAsg (tCall spDraw [] E0 (tCons (tVar 0) (tCons (tC (.int 6)) tNil))) (gName 1))
    (tSeq (tAsg (tOp rSubI (tCall spDraw [] E0 (tCons (tVar 0) (tCons (tC (.int 13)) tNil))) (tC (.int 6))) (gName 2))
    (tSeq (tAsg (tC (.int 0)) (gName 3))
    (tSeq (tFor (iRng1 (tCons (tOp rAddI (tC (.int 1)) (tCall spDraw [] E0 (tCons (tVar 0) (tCons (tC (.int 6)) tNil)))) tNil)) (gName 4) (tAsg (tOp rAddI (tOp rMulX (tVar 3) (tOp rPowI (tC (.int 10)) (tC (.int 10)))) (tCall spDraw [] E0 (tCons (tVar 0) (tCons (tOp rPowI (tC (.int 10)) (tC (.int 10))) tNil)))) (gName 3)))
    (tSeq (tAsg (tOp rSubI (tOp rAddI (tOp rShlI (tC (.int 1)) (tCall spDraw [] E0 (tCons (tVar 0) (tCons (tC (.int 200)) tNil)))) (tCall spDraw [] E0 (tCons (tVar 0) (tCons (tC (.int 3)) tNil)))) (tC (.int 1))) (gName 5))
    (tRet (tOp (rIxL K) (tLst (tCons (tVar 2) (tCons (tVar 2) (tCons (tVar 3) (tCons (tOp rSubI (tC (.int 0)) (tVar 3)) (tCons (tVar 5) (tCons (tOp rSubI (tC (.int 0)) (tVar 5)) tNil))))))) (tVar 1))))))))


theorem p_l_cell_at_len {K : PySem.W.Frag} {vs : List V} {H : Hp} {Q : VK} {E : XK} (h : spCellAt K vs H Q E) : vs.length = 2 := by
  obtain ⟨a, ns, k, rfl, _⟩ := h; rfl
theorem p_l_cell_at {K : PySem.W.Frag} {vs : List V} {H : Hp} {Q : VK} {E : XK} (h : spCellAt K vs H Q E) : t_l_cell_at K { nx := fun _ H' => Q .non H', rt := Q } (start N_l_cell_at vs) H := by
  obtain ⟨a, ns, k, rfl, hS, q⟩ := h
  unfold t_l_cell_at
  walk_at "go"
  refine w_lenL hS ?_
  walk_at "go"
  refine if_2 (fun h => ?_) (fun h => ?_)
  · rw [List.length_map] at h
    have hk : k < ns.length := by omega
    walk_at "go"
    refine w_ixL hS (v := .int ns[k]) (atI_nat (by rw [List.getElem?_map, List.getElem?_eq_getElem hk]; rfl)) ?_
    exact q _
  · walk_at "go"
    exact q _
theorem p_l_begin_len {vs : List V} {H : Hp} {Q : VK} {E : XK} (h : spBegin vs H Q E) : vs.length = 1 := by
  obtain ⟨n, rfl, _⟩ := h; rfl
theorem p_l_begin {K : PySem.W.Frag} {vs : List V} {H : Hp} {Q : VK} {E : XK} (h : spBegin vs H Q E) : t_l_begin K { nx := fun _ H' => Q .non H', rt := Q } (start N_l_begin vs) H := by
  obtain ⟨n, rfl, q⟩ := h
  unfold t_l_begin
  walk_at "go"
  refine ⟨by show 2 ≤ sizeLine; decide, fun p hp => ?_⟩
  walk_at "go"
  have e : atI [V.int 0, V.int n] (if decide ((10 : Int) ^ (18 : Int).toNat ≤ n) = true then 1 else 0) = some (.int (if decide ((10 : Int) ^ (18 : Int).toNat ≤ n) = true then n else 0)) := by
    split <;> rfl
  refine w_ixL (sqL upd_same) e ?_
  walk_at "go"
  refine ⟨by show 3 ≤ sizeLine; decide, fun l hl => ?_⟩
  exact q l _ (free_of hl) (same_in (same_new hp) hl) ⟨_, _, _, upd_same⟩
theorem p_l_draw_len {vs : List V} {H : Hp} {Q : VK} {E : XK} (h : spDraw vs H Q E) : vs.length = 2 := by
  obtain ⟨l, m, rfl, _⟩ := h; rfl
theorem dr_set {l : Addr} {H : Hp} {a b c : Int} (s : Src H l) : Dr l H (upd H l (.lst [.int a, .int b, .int c])) := ⟨fun p o n h => by rw [upd_ne n]; exact h, s, ⟨_, _, _, upd_same⟩⟩
theorem mulS {i j : Int} (h0 : -(2 ^ 64) < i) (h1 : i < 2 ^ 64) (h2 : -(2 ^ 64) < j) (h3 : j < 2 ^ 64) : CMulX i j := by
  have a : i.natAbs < 2 ^ 64 := by omega
  have b : j.natAbs < 2 ^ 64 := by omega
  exact mulx_ok a b (by decide)
theorem p_l_draw {K : PySem.W.Frag} {vs : List V} {H : Hp} {Q : VK} {E : XK} (h : spDraw vs H Q E) : t_l_draw K { nx := fun _ H' => Q .non H', rt := Q } (start N_l_draw vs) H := by
  obtain ⟨l, m, rfl, hs, hm, bm, q⟩ := h
  obtain ⟨a, b, c, hl⟩ := id hs
  unfold t_l_draw
  walk_at "go"
  refine if_2 (fun h => ?_) (fun h => ?_)
  · walk_at "go"
    refine w_I (wide_div hm bm (by decide) (by decide)) ?_
    walk_at "go"
    refine w_setL hl (j := 0) rfl ?_
    walk_at "go"
    exact q _ _ (Int.emod_nonneg _ (by omega)) (Int.emod_lt_of_pos _ hm) (dr_set hs)
  · walk_at "go"
    refine w_setL hl (j := 2) rfl ?_
    walk_at "go"
    have e1 : ∀ n : Int, 0 ≤ n % 2147483647 ∧ n % 2147483647 < 2147483647 := fun n => by omega
    generalize hn1 : (b + 7919 * (c + 1) + 1) * 48271 % 2147483647 = n1
    have b1 := e1 ((b + 7919 * (c + 1) + 1) * 48271)
    rw [hn1] at b1
    have c1 : 0 ≤ n1 / 1009 ∧ n1 / 1009 < 2147483647 := by omega
    refine w_I (mulS (by omega) (by omega) (by omega) (by omega)) ?_
    walk_at "go"
    generalize hn2 : n1 * (n1 / 1009 + 69621) % 2147483647 = n2
    have b2 := e1 (n1 * (n1 / 1009 + 69621))
    rw [hn2] at b2
    have c2 : 0 ≤ n2 / 2003 ∧ n2 / 2003 < 2147483647 := by omega
    refine w_I (mulS (by omega) (by omega) (by omega) (by omega)) ?_
    walk_at "go"
    exact q _ _ (Int.emod_nonneg _ (by omega)) (Int.emod_lt_of_pos _ hm) (dr_set hs)
theorem p_l_far_len {vs : List V} {H : Hp} {Q : VK} {E : XK} (h : spFar vs H Q E) : vs.length = 1 := by
  obtain ⟨l, rfl, _⟩ := h; rfl
theorem far_grow {g d : Int} {i : Nat} (h0 : 0 ≤ g) (h1 : g < 10000000000 ^ i) (hd0 : 0 ≤ d) (hd1 : d < 10000000000) : 0 ≤ g * 10000000000 + d ∧ g * 10000000000 + d < 10000000000 ^ (i + 1) := by
  rw [Int.pow_succ]
  refine ⟨by omega, ?_⟩
  generalize (10000000000 : Int) ^ i = w at *
  omega
theorem far_bound {g : Int} {i : Nat} (h0 : 0 ≤ g) (h1 : g < 10000000000 ^ i) (hi : i ≤ 6) : g < 2 ^ 200 := by
  have : (10000000000 : Int) ^ i ≤ 10000000000 ^ 6 := by
    rcases (by omega : i = 0 ∨ i = 1 ∨ i = 2 ∨ i = 3 ∨ i = 4 ∨ i = 5 ∨ i = 6) with h | h | h | h | h | h | h <;> subst h <;> decide
  have : (10000000000 : Int) ^ 6 < 2 ^ 200 := by decide
  omega
theorem two_pow_le {n : Nat} (h : n < 200) : (2 : Int) ^ n ≤ 2 ^ 199 ∧ 0 < (2 : Int) ^ n := by
  have e := Nat.pow_le_pow_right (n := 2) (by decide) (by omega : n ≤ 199)
  have e1 := PySem.W.kbt_cast n
  have e2 := PySem.W.kbt_cast 199
  have e3 : 0 < (2 : Nat) ^ n := Nat.pow_pos (by decide)
  omega
theorem p_l_far {K : PySem.W.Frag} {vs : List V} {H : Hp} {Q : VK} {E : XK} (h : spFar vs H Q E) : t_l_far K { nx := fun _ H' => Q .non H', rt := Q } (start N_l_far vs) H := by
  obtain ⟨l, rfl, hs, q⟩ := h
  unfold t_l_far
  walk_at "go"
  refine ⟨l, 6, rfl, hs, by decide, by decide, fun way H1 w0 w1 d1 => ?_⟩
  walk_at "go"
  refine ⟨l, 13, rfl, d1.src, by decide, by decide, fun small H2 s0 s1 d2 => ?_⟩
  walk_at "go"
  refine ⟨l, 6, rfl, d2.src, by decide, by decide, fun n H3 n0 n1 d3 => ?_⟩
  walk_at "go"
  have dd3 := (d1.trans d2).trans d3
  refine ⟨_, rfl, by omega, by omega, for_range (lo := 0) (n := (1 + n).toNat) (fun i σ H' => ∃ (g : Int) (k : Option V), σ = [some (.ref l), some (.int way), some (.int (small - 6)), some (.int g), k, none] ∧ 0 ≤ g ∧ g < 10000000000 ^ i ∧ Dr l H H') ⟨0, none, rfl, by decide, by decide, dd3⟩ ?_ ?_⟩
  · rintro i σ H4 hi ⟨g, k, rfl, g0, g1, d4⟩
    have gb := far_bound g0 g1 (by omega)
    walk_at "go"
    refine w_I (mulx_ok (a := 200) (b := 64) (by omega) (by decide +kernel) (by decide)) ?_
    walk_at "go"
    refine ⟨l, _, rfl, d4.src, by decide +kernel, by decide +kernel, fun d H5 e0 e1 d5 => ?_⟩
    walk_at "go"
    have e1' : d < 10000000000 := e1
    have := far_grow g0 g1 e0 e1'
    exact ⟨_, _, rfl, this.1, this.2, d4.trans d5⟩
  · rintro σ H4 ⟨g, k, rfl, g0, g1, d4⟩
    have gb := far_bound g0 g1 (by omega)
    walk_at "go"
    refine ⟨l, 200, rfl, d4.src, by decide, by decide, fun e H5 e0 e1 d5 => ?_⟩
    obtain ⟨en, rfl⟩ := Int.eq_ofNat_of_zero_le e0
    walk_at "go"
    refine w_I (shl_ok (n := 1) (by decide) (by omega)) ?_
    walk_at "go"
    refine ⟨l, 3, rfl, d5.src, by decide, by decide, fun f H6 f0 f1 d6 => ?_⟩
    walk_at "go"
    refine ⟨by show 6 ≤ sizeLine; decide, fun p hp => ?_⟩
    have d7 := ((d4.trans d5).trans d6).new (o := .lst [.int (small - 6), .int (small - 6), .int g, .int (0 - g), .int (1 * 2 ^ (en : Int).toNat + f - 1), .int (0 - (1 * 2 ^ (en : Int).toNat + f - 1))]) hp
    have p1 := two_pow_le (n := en) (by omega)
    have et : (1 : Int) * 2 ^ (en : Int).toNat = 2 ^ en := by rw [Int.one_mul, Int.toNat_natCast]
    rw [et] at d7 ⊢
    have p2 : (2 : Int) ^ 199 < 2 ^ 200 - 10 := by decide
    have p3 : (2 : Int) ^ 200 = ((2 ^ 200 : Nat) : Int) := by decide
    have p4 : (20 : Int) < 2 ^ 200 := by decide
    generalize (2 : Int) ^ en = pw at *
    walk_at "go"
    rcases (by omega : way = 0 ∨ way = 1 ∨ way = 2 ∨ way = 3 ∨ way = 4 ∨ way = 5) with h | h | h | h | h | h <;> subst h <;> refine w_ixL (sqL upd_same) rfl ?_ <;> refine q _ _ ?_ d7 <;> unfold Bits <;> omega
/-! ### the laws' loop over the cells -/
theorem ints_cut {ns : List Int} {lo hi : Option Int} : ∀ x ∈ cutV (ns.map V.int) lo hi, ∃ z, x = V.int z := fun x hx => by
  unfold cutV at hx
  have h1 := List.mem_of_mem_drop (List.mem_of_mem_take hx)
  obtain ⟨z, _, e⟩ := List.mem_map.mp h1
  exact ⟨z, e.symm⟩
theorem w_cells {K : PySem.W.Frag} {H : Hp} {a : Addr} {ns : List Int} {N : Int} {j : Nat} {tb : TS} {D : Ends} {σ : L2.St} (Ok : L2.St → Prop) (h0 : Ok σ) (hσ : σ[0]? = some (some (.ref a))) (hS : SqL K H a (ns.map V.int)) (hlen : ns.length ≤ 63)
    (hs : ∀ z σ' H' (N : L2.St → Hp → Prop), Ok σ' → Same H H' → (∀ σ2 H2, Ok σ2 → Same H' H2 → N σ2 H2) → tb { D with nx := N, ct := N, bk := D.nx } (σ'.set j (some (.int z))) H') (hd : ∀ σ' H', Ok σ' → Same H H' → D.nx σ' H') :
    tFor (iList K (tOp rCat (tLst (tCons (tCall (spCellAt K) [] E0 (tCons (tVar 0) (tCons (tC (.int 0)) tNil))) tNil)) (tSl (rSlL K) (tVar 0) (tPart (tC (.int 1))) (tPart (tC (.int N)))))) (gName j) tb D σ H := by
  refine w_forI (w_iL (w_op (w_lst (w_cons (w_call (w_cons (w_var hσ (w_cons (w_con (w_nil ?_))))))))))
  refine ⟨a, ns, 0, rfl, hS, fun n0 => ?_⟩
  walk_at "go"
  refine ⟨by show 1 ≤ sizeLine; decide, fun L1 hL1 => ?_⟩
  refine w_sl (w_var hσ (w_part (w_con (w_partI (w_part (w_con (w_partI ?_)))))))
  refine w_slL ((same_new hL1).seq hS) fun L2 hL2 => ?_
  have cl := cutV_length (ns.map V.int) (some 1) (some N)
  rw [List.length_map] at cl
  refine w_cat (keep upd_same hL2) upd_same (Nat.le_trans (by rw [List.length_singleton]; omega : _ ≤ 1000) (by decide)) fun L hL => ?_
  have hi : ∀ x ∈ [V.int n0] ++ cutV (ns.map V.int) (some 1) (some N), ∃ z, x = V.int z := fun x hx => by
    rcases List.mem_append.mp hx with h | h
    · exact ⟨n0, by simpa using h⟩
    · exact ints_cut x h
  generalize [V.int n0] ++ cutV (ns.map V.int) (some 1) (some N) = xs at *
  have h1 : (upd (upd (upd H L1 (.lst [.int n0])) L2 (.lst (cutV (ns.map V.int) (some 1) (some N)))) L (.lst xs)) L = some (.lst xs) := upd_same
  have s1 : Same H (upd (upd (upd H L1 (.lst [.int n0])) L2 (.lst (cutV (ns.map V.int) (some 1) (some N)))) L (.lst xs)) := same_in (same_in (same_new hL1) hL2) hL
  generalize upd (upd (upd H L1 (.lst [.int n0])) L2 (.lst (cutV (ns.map V.int) (some 1) (some N)))) L (.lst xs) = H0 at *
  refine ⟨L, rfl, ⟨_, sqL h1⟩, for_list (K := K) (a := L) (xs := xs) (fun i σ H' => Ok σ ∧ Same H0 H') ⟨h0, Same.refl _⟩ (fun i σ H' _ P => sqL (P.2 _ _ h1)) ?_ ?_⟩
  · rintro i x σ1 H1 hx ⟨o1, sm⟩
    obtain ⟨z, rfl⟩ := hi x (List.mem_of_getElem? hx)
    exact hs z σ1 H1 _ o1 (s1.trans sm) fun σ2 H2 o2 s2 => ⟨o2, sm.trans s2⟩
  · rintro σ1 H1 ⟨o1, sm⟩
    exact hd σ1 H1 o1 (s1.trans sm)

/-! ### promises: pairs as rationals -/
abbrev rt (x : Rat) : HO := .tup [.int x.num, .int (x.den : Int)]
def RB (n : Nat) (x : Rat) : Prop := Bits n x.num ∧ x.den < 2 ^ n
def spPlus : Sp := fun vs H Q _ => ∃ (p r : Addr) (x y : Rat), vs = [.ref p, .ref r] ∧ H p = some (rt x) ∧ H r = some (rt y) ∧ RB 2000 x ∧ RB 2000 y ∧ ∀ s, H s = none → Q (.ref s) (upd H s (rt (x + y)))
def spLess : Sp := fun vs H Q _ => ∃ (p r : Addr) (x y : Rat), vs = [.ref p, .ref r] ∧ H p = some (rt x) ∧ H r = some (rt y) ∧ RB 2000 x ∧ RB 2000 y ∧ ∀ s, H s = none → Q (.ref s) (upd H s (rt (x - y)))
def spTimes : Sp := fun vs H Q _ => ∃ (p r : Addr) (x y : Rat), vs = [.ref p, .ref r] ∧ H p = some (rt x) ∧ H r = some (rt y) ∧ RB 2000 x ∧ RB 2000 y ∧ ∀ s, H s = none → Q (.ref s) (upd H s (rt (x * y)))
def spBelow : Sp := fun vs H Q _ => ∃ (p r : Addr) (x y : Rat), vs = [.ref p, .ref r] ∧ H p = some (rt x) ∧ H r = some (rt y) ∧ RB 2000 x ∧ RB 2000 y ∧ Q (.bl (decide (x < y))) H
/-- the nearest whole number, of two alike near the greater -/
def near (x : Rat) : Int := (2 * x.num + x.den) / (2 * x.den)
def spNearest : Sp := fun vs H Q _ => ∃ (p : Addr) (x : Rat), vs = [.ref p] ∧ H p = some (rt x) ∧ RB 2000 x ∧ Q (.int (near x)) H

-- names: 0:one 1:other
abbrev N_plus : List Str := ["one", "other"]
def t_plus (K : PySem.W.Frag) : TS :=
  (tRet (tCall spPair [] E0 (tCons (tOp rAddI (tOp rMulX (tOp (rIxT K) (tVar 0) (tC (.int 0))) (tOp (rIxT K) (tVar 1) (tC (.int 1)))) (tOp rMulX (tOp (rIxT K) (tVar 1) (tC (.int 0))) (tOp (rIxT K) (tVar 0) (tC (.int 1))))) (tCons (tOp rMulX (tOp (rIxT K) (tVar 0) (tC (.int 1))) (tOp (rIxT K) (tVar 1) (tC (.int 1)))) tNil))))

-- names: 0:one 1:other
abbrev N_less : List Str := ["one", "other"]
def t_less (K : PySem.W.Frag) : TS :=
  (tRet (tCall spPair [] E0 (tCons (tOp rSubI (tOp rMulX (tOp (rIxT K) (tVar 0) (tC (.int 0))) (tOp (rIxT K) (tVar 1) (tC (.int 1)))) (tOp rMulX (tOp (rIxT K) (tVar 1) (tC (.int 0))) (tOp (rIxT K) (tVar 0) (tC (.int 1))))) (tCons (tOp rMulX (tOp (rIxT K) (tVar 0) (tC (.int 1))) (tOp (rIxT K) (tVar 1) (tC (.int 1)))) tNil))))

-- names: 0:one 1:other
abbrev N_times : List Str := ["one", "other"]
def t_times (K : PySem.W.Frag) : TS :=
  (tRet (tCall spPair [] E0 (tCons (tOp rMulX (tOp (rIxT K) (tVar 0) (tC (.int 0))) (tOp (rIxT K) (tVar 1) (tC (.int 0)))) (tCons (tOp rMulX (tOp (rIxT K) (tVar 0) (tC (.int 1))) (tOp (rIxT K) (tVar 1) (tC (.int 1)))) tNil))))

-- names: 0:one 1:other
abbrev N_below : List Str := ["one", "other"]
def t_below (K : PySem.W.Frag) : TS :=
  (tRet (tOp rLtI (tOp rMulX (tOp (rIxT K) (tVar 0) (tC (.int 0))) (tOp (rIxT K) (tVar 1) (tC (.int 1)))) (tOp rMulX (tOp (rIxT K) (tVar 1) (tC (.int 0))) (tOp (rIxT K) (tVar 0) (tC (.int 1))))))

-- names: 0:one
abbrev N_nearest : List Str := ["one"]
def t_nearest (K : PySem.W.Frag) : TS :=
  (tRet (tOp rDivI (tOp rAddI (tOp rMulI (tC (.int 2)) (tOp (rIxT K) (tVar 0) (tC (.int 0)))) (tOp (rIxT K) (tVar 0) (tC (.int 1)))) (tOp rMulI (tC (.int 2)) (tOp (rIxT K) (tVar 0) (tC (.int 1))))))


theorem pn_rat (a b : Int) : Mth.pn a b = (Rat.divInt a b).num := by
  rw [Rat.num_divInt, Int.gcd_comm]; rfl
theorem pd_rat {a b : Int} (hb : b ≠ 0) : Mth.pd a b = ((Rat.divInt a b).den : Int) := by
  rw [Rat.den_divInt, if_neg hb, Int.gcd_comm, Int.natCast_ediv]; rfl
theorem Bits.mono {m n : Nat} {i : Int} (h : Bits m i) (hn : m ≤ n) : Bits n i := Nat.lt_of_lt_of_le h (Nat.pow_le_pow_right (by decide) hn)
theorem Bits.le {n : Nat} {i j : Int} (h : Bits n j) (hn : i.natAbs ≤ j.natAbs) : Bits n i := Nat.lt_of_le_of_lt hn h
theorem Bits.mul {m n : Nat} {i j : Int} (h : Bits m i) (h' : Bits n j) : Bits (m + n) (i * j) := wide_lt h h'
theorem Bits.add {n : Nat} {i j : Int} (h : Bits n i) (h' : Bits n j) : Bits (n + 1) (i + j) := by
  unfold Bits at *
  rw [Nat.pow_succ]
  omega
theorem Bits.sub {n : Nat} {i j : Int} (h : Bits n i) (h' : Bits n j) : Bits (n + 1) (i - j) := by
  unfold Bits at *
  rw [Nat.pow_succ]
  omega
theorem RB.mono {m n : Nat} {x : Rat} (h : RB m x) (hn : m ≤ n) : RB n x := ⟨h.1.mono hn, Nat.lt_of_lt_of_le h.2 (Nat.pow_le_pow_right (by decide) hn)⟩
theorem RB.den {n : Nat} {x : Rat} (h : RB n x) : Bits n (x.den : Int) := by
  have := h.2
  unfold Bits
  omega
theorem rb_div {n : Nat} {a b : Int} (hb : b ≠ 0) (ha : Bits n a) (h : Bits n b) : RB n (Rat.divInt a b) := by
  have h1 := Mth.pn_le (a := a) hb
  have h2 := Mth.pd_le (a := a) hb
  rw [pn_rat] at h1
  rw [pd_rat hb] at h2
  exact ⟨ha.le h1, by unfold Bits at h; omega⟩
theorem den_ne (x : Rat) : (x.den : Int) ≠ 0 := by have := x.den_nz; omega
theorem den_pos (x : Rat) : 0 < (x.den : Int) := by have := x.den_nz; omega
theorem den_mul_ne (x y : Rat) : (x.den : Int) * (y.den : Int) ≠ 0 := Int.mul_ne_zero (den_ne x) (den_ne y)
theorem add_rat (x y : Rat) : Rat.divInt (x.num * y.den + y.num * x.den) (x.den * y.den) = x + y := by
  rw [Rat.add_def', ← Rat.divInt_ofNat, Int.natCast_mul]
theorem sub_rat (x y : Rat) : Rat.divInt (x.num * y.den - y.num * x.den) (x.den * y.den) = x - y := by
  rw [Rat.sub_def', ← Rat.divInt_ofNat, Int.natCast_mul]
theorem mul_rat (x y : Rat) : Rat.divInt (x.num * y.num) (x.den * y.den) = x * y := by
  rw [Rat.mul_def', ← Rat.divInt_ofNat, Int.natCast_mul]
theorem rb_add {n : Nat} {x y : Rat} (hx : RB n x) (hy : RB n y) : RB (n + n + 1) (x + y) := by
  rw [← add_rat]
  exact rb_div (den_mul_ne x y) (Bits.add (hx.1.mul hy.den) (hy.1.mul hx.den)) ((hx.den.mul hy.den).mono (by omega))
theorem rb_sub {n : Nat} {x y : Rat} (hx : RB n x) (hy : RB n y) : RB (n + n + 1) (x - y) := by
  rw [← sub_rat]
  exact rb_div (den_mul_ne x y) (Bits.sub (hx.1.mul hy.den) (hy.1.mul hx.den)) ((hx.den.mul hy.den).mono (by omega))
theorem rb_mul {n : Nat} {x y : Rat} (hx : RB n x) (hy : RB n y) : RB (n + n) (x * y) := by
  rw [← mul_rat]
  exact rb_div (den_mul_ne x y) (hx.1.mul hy.1) (hx.den.mul hy.den)
theorem p_plus_len {vs : List V} {H : Hp} {Q : VK} {E : XK} (h : spPlus vs H Q E) : vs.length = 2 := by
  obtain ⟨p, r, x, y, rfl, _⟩ := h; rfl
theorem p_less_len {vs : List V} {H : Hp} {Q : VK} {E : XK} (h : spLess vs H Q E) : vs.length = 2 := by
  obtain ⟨p, r, x, y, rfl, _⟩ := h; rfl
theorem p_times_len {vs : List V} {H : Hp} {Q : VK} {E : XK} (h : spTimes vs H Q E) : vs.length = 2 := by
  obtain ⟨p, r, x, y, rfl, _⟩ := h; rfl
theorem p_below_len {vs : List V} {H : Hp} {Q : VK} {E : XK} (h : spBelow vs H Q E) : vs.length = 2 := by
  obtain ⟨p, r, x, y, rfl, _⟩ := h; rfl
theorem p_nearest_len {vs : List V} {H : Hp} {Q : VK} {E : XK} (h : spNearest vs H Q E) : vs.length = 1 := by
  obtain ⟨p, x, rfl, _⟩ := h; rfl
theorem mulB {m n : Nat} {i j : Int} (h : Bits m i) (h' : Bits n j) (hn : m + n ≤ 134217728) : CMulX i j := mulx_ok h h' hn
theorem p_plus {K : PySem.W.Frag} {vs : List V} {H : Hp} {Q : VK} {E : XK} (h : spPlus vs H Q E) : t_plus K { nx := fun _ H' => Q .non H', rt := Q } (start N_plus vs) H := by
  obtain ⟨p, r, x, y, rfl, hp, hr, bx, bY, q⟩ := h
  unfold t_plus
  walk_at "go"
  refine w_mulX (mulB bx.1 bY.den (by decide)) ?_
  walk_at "go"
  refine w_mulX (mulB bY.1 bx.den (by decide)) ?_
  walk_at "go"
  refine w_mulX (mulB bx.den bY.den (by decide)) ?_
  walk_at "go"
  refine ⟨_, _, rfl, den_mul_ne x y, (bx.den.mul bY.den).mono (by decide), fun s hs => ?_⟩
  rw [pn_rat, pd_rat (den_mul_ne x y), add_rat]
  exact q s hs
theorem p_less {K : PySem.W.Frag} {vs : List V} {H : Hp} {Q : VK} {E : XK} (h : spLess vs H Q E) : t_less K { nx := fun _ H' => Q .non H', rt := Q } (start N_less vs) H := by
  obtain ⟨p, r, x, y, rfl, hp, hr, bx, bY, q⟩ := h
  unfold t_less
  walk_at "go"
  refine w_mulX (mulB bx.1 bY.den (by decide)) ?_
  walk_at "go"
  refine w_mulX (mulB bY.1 bx.den (by decide)) ?_
  walk_at "go"
  refine w_mulX (mulB bx.den bY.den (by decide)) ?_
  walk_at "go"
  refine ⟨_, _, rfl, den_mul_ne x y, (bx.den.mul bY.den).mono (by decide), fun s hs => ?_⟩
  rw [pn_rat, pd_rat (den_mul_ne x y), sub_rat]
  exact q s hs
theorem p_times {K : PySem.W.Frag} {vs : List V} {H : Hp} {Q : VK} {E : XK} (h : spTimes vs H Q E) : t_times K { nx := fun _ H' => Q .non H', rt := Q } (start N_times vs) H := by
  obtain ⟨p, r, x, y, rfl, hp, hr, bx, bY, q⟩ := h
  unfold t_times
  walk_at "go"
  refine w_mulX (mulB bx.1 bY.1 (by decide)) ?_
  walk_at "go"
  refine w_mulX (mulB bx.den bY.den (by decide)) ?_
  walk_at "go"
  refine ⟨_, _, rfl, den_mul_ne x y, (bx.den.mul bY.den).mono (by decide), fun s hs => ?_⟩
  rw [pn_rat, pd_rat (den_mul_ne x y), mul_rat]
  exact q s hs
theorem p_below {K : PySem.W.Frag} {vs : List V} {H : Hp} {Q : VK} {E : XK} (h : spBelow vs H Q E) : t_below K { nx := fun _ H' => Q .non H', rt := Q } (start N_below vs) H := by
  obtain ⟨p, r, x, y, rfl, hp, hr, bx, bY, q⟩ := h
  unfold t_below
  walk_at "go"
  refine w_mulX (mulB bx.1 bY.den (by decide)) ?_
  walk_at "go"
  refine w_mulX (mulB bY.1 bx.den (by decide)) ?_
  walk_at "go"
  have e : decide (x.num * (y.den : Int) < y.num * (x.den : Int)) = decide (x < y) := decide_eq_decide.mpr (Rat.lt_iff x y).symm
  rw [e]
  exact q
theorem p_nearest {K : PySem.W.Frag} {vs : List V} {H : Hp} {Q : VK} {E : XK} (h : spNearest vs H Q E) : t_nearest K { nx := fun _ H' => Q .non H', rt := Q } (start N_nearest vs) H := by
  obtain ⟨p, x, rfl, hp, bx, q⟩ := h
  unfold t_nearest
  walk_at "go"
  refine w_divI (divW (by have := den_pos x; omega) ?_) ?_
  · have h := (show Bits 2 2 by unfold Bits; decide).mul bx.den
    exact h.mono (by decide)
  · exact q
/-! ### expressions that give such pairs -/
def RE (te : TE) (σ : L2.St) (H : Hp) (x : Rat) : Prop := ∀ H1, Same H H1 → ∀ Q : VK, (∀ p H2, Same H1 H2 → H2 p = some (rt x) → Q (.ref p) H2) → te σ H1 Q
section
variable {K : PySem.W.Frag} {σ : L2.St} {H : Hp} {ta tb : TE} {x y : Rat}
theorem re_var {i : Nat} {p : Addr} (h : σ[i]? = some (some (.ref p))) (hp : H p = some (rt x)) : RE (tVar i) σ H x := fun H1 s _ q => ⟨_, h, q p H1 (Same.refl _) (s _ _ hp)⟩
theorem re_call {sp : Sp} {z : Rat} (ha : RE ta σ H x) (hb : RE tb σ H y) (h : ∀ H1 p r (Q : VK), H1 p = some (rt x) → H1 r = some (rt y) → (∀ s, H1 s = none → Q (.ref s) (upd H1 s (rt z))) → sp [.ref p, .ref r] H1 Q E0) :
    RE (tCall sp [] E0 (tCons ta (tCons tb tNil))) σ H z := fun H1 s Q q => by
  refine w_call (w_cons (ha H1 s _ fun p H2 s2 hp => w_cons (hb H2 (s.trans s2) _ fun r H3 s3 hr => w_nil ?_)))
  exact h H3 p r Q (s3 _ _ hp) hr fun t ht => q t _ ((s2.trans s3).trans (same_new ht)) upd_same
theorem re_plus (ha : RE ta σ H x) (hb : RE tb σ H y) (bx : RB 2000 x) (bY : RB 2000 y) : RE (tCall spPlus [] E0 (tCons ta (tCons tb tNil))) σ H (x + y) := re_call ha hb fun H1 p r Q hp hr k => ⟨p, r, x, y, rfl, hp, hr, bx, bY, k⟩
theorem re_less (ha : RE ta σ H x) (hb : RE tb σ H y) (bx : RB 2000 x) (bY : RB 2000 y) : RE (tCall spLess [] E0 (tCons ta (tCons tb tNil))) σ H (x - y) := re_call ha hb fun H1 p r Q hp hr k => ⟨p, r, x, y, rfl, hp, hr, bx, bY, k⟩
theorem re_times (ha : RE ta σ H x) (hb : RE tb σ H y) (bx : RB 2000 x) (bY : RB 2000 y) : RE (tCall spTimes [] E0 (tCons ta (tCons tb tNil))) σ H (x * y) := re_call ha hb fun H1 p r Q hp hr k => ⟨p, r, x, y, rfl, hp, hr, bx, bY, k⟩
theorem re_lit {n d : Int} (h1 : x.num = n) (h2 : (x.den : Int) = d) : RE (tTup (tCons (tC (.int n)) (tCons (tC (.int d)) tNil))) σ H x := fun H1 s Q q => by
  refine w_tup (w_cons (w_con (w_cons (w_con (w_nil ⟨by show 2 ≤ sizeLine; decide, fun p hp => ?_⟩)))))
  subst h1 h2
  exact q p _ (same_new hp) upd_same
theorem ev_below (ha : RE ta σ H x) (hb : RE tb σ H y) (bx : RB 2000 x) (bY : RB 2000 y) : Evl.Ev (tCall spBelow [] E0 (tCons ta (tCons tb tNil))) σ H (.bl (decide (x < y))) := fun H1 s Q q => by
  refine w_call (w_cons (ha H1 s _ fun p H2 s2 hp => w_cons (hb H2 (Same.trans s s2) _ fun r H3 s3 hr => w_nil ?_)))
  exact ⟨p, r, x, y, rfl, s3 _ _ hp, hr, bx, bY, q H3 (Same.trans s2 s3)⟩
theorem eqv_rat : PyData.eqv (.tuple [.int x.num, .int (x.den : Int)]) (.tuple [.int y.num, .int (y.den : Int)]) = decide (x = y) := by
  rw [eqv_pair]
  by_cases h : x = y
  · subst h; simp
  · rw [decide_eq_false h]
    by_cases hn : x.num = y.num
    · have hd : ¬ (x.den : Int) = (y.den : Int) := fun e => h (Rat.ext hn (by omega))
      rw [decide_eq_false hd, Bool.and_false]
    · rw [decide_eq_false hn, Bool.false_and]
theorem et_ne (ha : RE ta σ H x) (hb : RE tb σ H y) : Evl.EvT (tTest (tOp (rNeD K) ta tb)) σ H (!decide (x = y)) := fun H1 s Q q => by
  refine w_test (w_op (ha H1 s _ fun p H2 s2 hp => hb H2 (Same.trans s s2) _ fun r H3 s3 hr => ?_))
  refine w_neD (dpP (s3 _ _ hp)) (dpP hr) rfl rfl ?_
  rw [eqv_rat]
  exact ⟨_, rfl, q H3 (Same.trans s2 s3)⟩
theorem et_ne_f (ha : RE ta σ H x) (hb : RE tb σ H y) (e : x = y) : Evl.EvT (tTest (tOp (rNeD K) ta tb)) σ H false := by
  have h := et_ne (K := K) ha hb
  rw [decide_eq_true e] at h
  exact h
theorem et_or_ff {t u : TT} (h1 : Evl.EvT t σ H false) (h2 : Evl.EvT u σ H false) : Evl.EvT (tOr t u) σ H false := Evl.et_or h1 fun _ => h2
theorem q_pass {t : TT} {tu tz : TS} {D : Ends} (h : Evl.EvT t σ H false) (k : ∀ H1, Same H H1 → tz D σ H1) : tSeq (tIfS t tu tNext) tz D σ H := Evl.q_when h (fun z => by cases z) fun _ => k
end

/-! ### promises: parts -/
abbrev pt (x : Int × Nat) : HO := .tup [.int x.1, .int (x.2 : Int)]
def PB (n : Nat) (x : Int × Nat) : Prop := Bits n x.1 ∧ x.2 ≤ n
def pplus (x y : Int × Nat) : Int × Nat := Mth.prt (x.1 * 2 ^ y.2 + y.1 * 2 ^ x.2) (x.2 + y.2)
def pless (x y : Int × Nat) : Int × Nat := Mth.prt (x.1 * 2 ^ y.2 - y.1 * 2 ^ x.2) (x.2 + y.2)
def spPart : Sp := fun vs H Q _ => ∃ (n : Int) (e : Nat), vs = [.int n, .int (e : Int)] ∧ ∀ p, H p = none → Q (.ref p) (upd H p (pt (Mth.prt n e)))
def spIsPart (K : PySem.W.Frag) : Sp := fun vs H Q _ => ∃ (p : Addr) (a b : Int), vs = [.ref p] ∧ H p = some (.tup [.int a, .int b]) ∧ Q (.bl (decide (0 ≤ b) && (decide (b = 0) || decide (a % 2 = 1)))) H
def spPartPlus : Sp := fun vs H Q _ => ∃ (p r : Addr) (x y : Int × Nat), vs = [.ref p, .ref r] ∧ H p = some (pt x) ∧ H r = some (pt y) ∧ PB 1000000 x ∧ PB 1000000 y ∧ ∀ s, H s = none → Q (.ref s) (upd H s (pt (pplus x y)))
def spPartLess : Sp := fun vs H Q _ => ∃ (p r : Addr) (x y : Int × Nat), vs = [.ref p, .ref r] ∧ H p = some (pt x) ∧ H r = some (pt y) ∧ PB 1000000 x ∧ PB 1000000 y ∧ ∀ s H', Same H H' → H s = none → H' s = some (pt (pless x y)) → Q (.ref s) H'
def spPartOver : Sp := fun vs H Q _ => ∃ (p r : Addr) (x y : Int × Nat), vs = [.ref p, .ref r] ∧ H p = some (pt x) ∧ H r = some (pt y) ∧ PB 2000 x ∧ PB 2000 y ∧ y.1 ≠ 0 ∧ ∀ s, H s = none → Q (.ref s) (upd H s (.tup [.int (Rat.divInt (x.1 * 2 ^ y.2) (y.1 * 2 ^ x.2)).num, .int ((Rat.divInt (x.1 * 2 ^ y.2) (y.1 * 2 ^ x.2)).den : Int)]))
def spHalvings : Sp := fun vs H Q _ => ∃ n : Nat, vs = [.int (n : Int)] ∧ Q (.int ((Builtin.Int.intBits (n : Int) : Nat) : Int)) H

-- names: 0:num 1:e 2:twos
abbrev N_part : List Str := ["num", "e", "twos"]
def t_part (K : PySem.W.Frag) : TS :=
  (tSeq (tIfS (tTest (tOp rEq (tVar 0) (tC (.int 0)))) (tRet (tTup (tCons (tC (.int 0)) (tCons (tC (.int 0)) tNil)))) tNext)
    (tSeq (tAsg (tCB rMin2 (tCons (tVar 1) (tCons (tOp rSubI (tBits (tOp rAndI (tVar 0) (tOp rSubI (tC (.int 0)) (tVar 0)))) (tC (.int 1))) tNil))) (gName 2))
    (tRet (tTup (tCons (tOp rShrI (tVar 0) (tVar 2)) (tCons (tOp rSubI (tVar 1) (tVar 2)) tNil))))))

-- names: 0:thing
abbrev N_is_part : List Str := ["thing"]
def t_is_part (K : PySem.W.Frag) : TS :=
  (tSeq (tIfS (tOr (tNot (tB (tCB (rIsi K) (tCons (tVar 0) (tCons (tC (.ty "tuple")) tNil))))) (tTest (tOp rNe (tCB (Evl.rLenS K) (tCons (tVar 0) tNil)) (tC (.int 2))))) (tRet (tC (.bl false))) tNext)
    (tSeq (tIfS (tOr (tNot (tB (tCall (spWhole K) [] E0 (tCons (tOp (rIxT K) (tVar 0) (tC (.int 0))) tNil)))) (tOr (tNot (tB (tCall (spWhole K) [] E0 (tCons (tOp (rIxT K) (tVar 0) (tC (.int 1))) tNil)))) (tTest (tOp rLtI (tOp (rIxT K) (tVar 0) (tC (.int 1))) (tC (.int 0)))))) (tRet (tC (.bl false))) tNext)
    (tRet (tOrV (tOp rEq (tOp (rIxT K) (tVar 0) (tC (.int 1))) (tC (.int 0))) (tOp rEq (tOp rModI (tOp (rIxT K) (tVar 0) (tC (.int 0))) (tC (.int 2))) (tC (.int 1)))))))

-- names: 0:one 1:other 2:e
abbrev N_part_plus : List Str := ["one", "other", "e"]
def t_part_plus (K : PySem.W.Frag) : TS :=
  (tSeq (tAsg (tCB Evl.rMax2 (tCons (tOp (rIxT K) (tVar 0) (tC (.int 1))) (tCons (tOp (rIxT K) (tVar 1) (tC (.int 1))) tNil))) (gName 2))
    (tRet (tCall spPart [] E0 (tCons (tOp rAddI (tOp rShlI (tOp (rIxT K) (tVar 0) (tC (.int 0))) (tOp rSubI (tVar 2) (tOp (rIxT K) (tVar 0) (tC (.int 1))))) (tOp rShlI (tOp (rIxT K) (tVar 1) (tC (.int 0))) (tOp rSubI (tVar 2) (tOp (rIxT K) (tVar 1) (tC (.int 1)))))) (tCons (tVar 2) tNil)))))

-- names: 0:one 1:other
abbrev N_part_less : List Str := ["one", "other"]
def t_part_less (K : PySem.W.Frag) : TS :=
  (tRet (tCall spPartPlus [] E0 (tCons (tVar 0) (tCons (tTup (tCons (tOp rSubI (tC (.int 0)) (tOp (rIxT K) (tVar 1) (tC (.int 0)))) (tCons (tOp (rIxT K) (tVar 1) (tC (.int 1))) tNil))) tNil))))

-- names: 0:one 1:other
abbrev N_part_over : List Str := ["one", "other"]
def t_part_over (K : PySem.W.Frag) : TS :=
  (tRet (tCall spPair [] E0 (tCons (tOp rShlI (tOp (rIxT K) (tVar 0) (tC (.int 0))) (tOp (rIxT K) (tVar 1) (tC (.int 1)))) (tCons (tOp rShlI (tOp (rIxT K) (tVar 1) (tC (.int 0))) (tOp (rIxT K) (tVar 0) (tC (.int 1)))) tNil))))

-- names: 0:many
abbrev N_halvings : List Str := ["many"]
def t_halvings (K : PySem.W.Frag) : TS :=
  (tRet (tBits (tVar 0)))


theorem p_part_len {vs : List V} {H : Hp} {Q : VK} {E : XK} (h : spPart vs H Q E) : vs.length = 2 := by
  obtain ⟨n, e, rfl, _⟩ := h; rfl
theorem odd_of (n : Int) (h : n ≠ 0) : ∃ (v : Nat) (m : Int), n = m * 2 ^ v ∧ ¬ m % 2 = 0 := Mth.odd_ex (n.natAbs + 1) n h (Nat.lt_of_lt_of_le (Nat.lt_two_pow_self) (Nat.pow_le_pow_right (by decide) (Nat.le_succ _)))
theorem p_part {K : PySem.W.Frag} {vs : List V} {H : Hp} {Q : VK} {E : XK} (h : spPart vs H Q E) : t_part K { nx := fun _ H' => Q .non H', rt := Q } (start N_part vs) H := by
  obtain ⟨n, e, rfl, q⟩ := h
  unfold t_part
  walk_at "go"
  refine if_2 (fun h => ?_) (fun h => ?_)
  · have h0 : n = 0 := V.int.inj h
    subst h0
    walk_at "go"
    refine ⟨by show 2 ≤ sizeLine; decide, fun p hp => ?_⟩
    rw [Mth.prt_zero] at q
    exact q p hp
  · have h0 : n ≠ 0 := fun z => h (by rw [z])
    obtain ⟨v, m, rfl, hm⟩ := odd_of n h0
    walk_at "go"
    rw [Mth.low_bit hm, Mth.low_bits]
    have e1 : (if (v : Int) < (e : Int) then (v : Int) else (e : Int)) = ((min e v : Nat) : Int) := by split <;> omega
    rw [e1]
    have e2 := Mth.prt_by hm v e
    walk_at "go"
    refine ⟨by show 2 ≤ sizeLine; decide, fun p hp => ?_⟩
    have e3 : (e : Int) - ((min e v : Nat) : Int) = ((e - min e v : Nat) : Int) := by omega
    rw [Int.toNat_natCast, e3]
    have := q p hp
    rw [e2] at this
    exact this
theorem p_is_part_len {K : PySem.W.Frag} {vs : List V} {H : Hp} {Q : VK} {E : XK} (h : spIsPart K vs H Q E) : vs.length = 1 := by
  obtain ⟨a, b, c, rfl, _⟩ := h; rfl
theorem dec_int1 {i j : Int} : decide (V.int i = V.int j) = decide (i = j) := decide_eq_decide.mpr Go.V.int_inj
theorem p_is_part {K : PySem.W.Frag} {vs : List V} {H : Hp} {Q : VK} {E : XK} (h : spIsPart K vs H Q E) : t_is_part K { nx := fun _ H' => Q .non H', rt := Q } (start N_is_part vs) H := by
  obtain ⟨p, a, b, rfl, hp, q⟩ := h
  unfold t_is_part
  walk_at "go"
  refine .inl ⟨_, rfl, ?_⟩
  walk_at "go"
  refine .inl ⟨_, rfl, ?_⟩
  walk_at "go"
  refine if_2 (fun h => ?_) (fun h => ?_)
  · walk_at "go"
    rw [decide_eq_false (by omega)] at q
    exact q
  · rw [decide_eq_true (by omega), Bool.true_and] at q
    walk_at "go"
    rw [dec_int1]
    refine if_2 (fun h => ?_) (fun h => ?_)
    · rw [decide_eq_true h] at q
      exact q
    · rw [decide_eq_false h] at q
      walk_at "go"
      rw [dec_int1]
      exact q
theorem p_part_plus_len {vs : List V} {H : Hp} {Q : VK} {E : XK} (h : spPartPlus vs H Q E) : vs.length = 2 := by
  obtain ⟨p, r, x, y, rfl, _⟩ := h; rfl
theorem p_part_less_len {vs : List V} {H : Hp} {Q : VK} {E : XK} (h : spPartLess vs H Q E) : vs.length = 2 := by
  obtain ⟨p, r, x, y, rfl, _⟩ := h; rfl
theorem p_part_over_len {vs : List V} {H : Hp} {Q : VK} {E : XK} (h : spPartOver vs H Q E) : vs.length = 2 := by
  obtain ⟨p, r, x, y, rfl, _⟩ := h; rfl
theorem p_halvings_len {vs : List V} {H : Hp} {Q : VK} {E : XK} (h : spHalvings vs H Q E) : vs.length = 1 := by
  obtain ⟨n, rfl, _⟩ := h; rfl
theorem shlB {i : Int} {j n : Nat} (h : Bits n i) (hn : n + j ≤ 134217728) : CShl i (j : Int) := shl_ok h hn
theorem p_part_plus {K : PySem.W.Frag} {vs : List V} {H : Hp} {Q : VK} {E : XK} (h : spPartPlus vs H Q E) : t_part_plus K { nx := fun _ H' => Q .non H', rt := Q } (start N_part_plus vs) H := by
  obtain ⟨p, r, ⟨a, m⟩, ⟨b, n⟩, rfl, hp, hr, bx, bY, q⟩ := h
  obtain ⟨ba, bm⟩ := bx
  obtain ⟨bb, bn⟩ := bY
  dsimp only at ba bm bb bn
  have key : ∀ E' : Nat, E' = max m n → pplus (a, m) (b, n) = Mth.prt (a * 2 ^ (E' - m) + b * 2 ^ (E' - n)) E' := fun E' hE => by
    unfold pplus
    dsimp only
    rcases Nat.le_total m n with h | h
    · have e0 : E' = n := by omega
      subst e0
      have e1 : a * 2 ^ E' + b * 2 ^ m = (a * 2 ^ (E' - m) + b * 2 ^ (E' - E')) * 2 ^ m := by
        rw [Nat.sub_self, Int.pow_zero, Int.mul_one, Int.add_mul, Int.mul_assoc, ← Int.pow_add, Nat.sub_add_cancel h]
      rw [e1, Nat.add_comm m E', Mth.prt_pow]
    · have e0 : E' = m := by omega
      subst e0
      have e1 : a * 2 ^ n + b * 2 ^ E' = (a * 2 ^ (E' - E') + b * 2 ^ (E' - n)) * 2 ^ n := by
        rw [Nat.sub_self, Int.pow_zero, Int.mul_one, Int.add_mul, Int.mul_assoc b, ← Int.pow_add, Nat.sub_add_cancel h]
      rw [e1, Mth.prt_pow]
  unfold t_part_plus
  walk_at "go"
  obtain ⟨E', hE⟩ : ∃ E' : Nat, E' = max m n := ⟨_, rfl⟩
  have e1 : (if (n : Int) > (m : Int) then (n : Int) else (m : Int)) = (E' : Int) := by split <;> omega
  rw [e1]
  have e2 : (E' : Int) - (m : Int) = ((E' - m : Nat) : Int) := by omega
  have e3 : (E' : Int) - (n : Int) = ((E' - n : Nat) : Int) := by omega
  walk_at "go"
  rw [e2]
  refine w_shlI (shlB ba (by omega)) ?_
  walk_at "go"
  rw [e3]
  refine w_shlI (shlB bb (by omega)) ?_
  walk_at "go"
  refine ⟨_, E', rfl, fun s hs => ?_⟩
  rw [Int.toNat_natCast, Int.toNat_natCast, ← key E' hE]
  exact q s hs
theorem pless_neg (x : Int × Nat) (b : Int) (n : Nat) : pplus x (0 - b, n) = pless x (b, n) := by
  unfold pplus pless
  dsimp only
  rw [Int.zero_sub, Int.neg_mul, Int.sub_eq_add_neg]
theorem p_part_less {K : PySem.W.Frag} {vs : List V} {H : Hp} {Q : VK} {E : XK} (h : spPartLess vs H Q E) : t_part_less K { nx := fun _ H' => Q .non H', rt := Q } (start N_part_less vs) H := by
  obtain ⟨p, r, x, ⟨b, n⟩, rfl, hp, hr, bx, bY, q⟩ := h
  unfold t_part_less
  walk_at "go"
  refine ⟨by show 2 ≤ sizeLine; decide, fun t ht => ?_⟩
  walk_at "go"
  refine ⟨p, t, x, (0 - b, n), rfl, keep hp ht, upd_same, bx, ⟨by have := bY.1; unfold Bits at *; dsimp only at *; omega, bY.2⟩, fun s hs => ?_⟩
  rw [pless_neg]
  exact q s _ (same_in (same_new ht) hs) (free_of hs) upd_same
theorem two_ne (n : Nat) : (2 : Int) ^ n ≠ 0 := by have := PySem.W.kbt_pos n; omega
theorem bits_pow {m n : Nat} {i : Int} (h : Bits m i) : Bits (m + n) (i * 2 ^ n) := by
  unfold Bits at *
  rw [Int.natAbs_mul, Nat.pow_add, Int.natAbs_pow]
  exact Nat.mul_lt_mul_of_pos_right h (Nat.pow_pos (by decide))
theorem p_part_over {K : PySem.W.Frag} {vs : List V} {H : Hp} {Q : VK} {E : XK} (h : spPartOver vs H Q E) : t_part_over K { nx := fun _ H' => Q .non H', rt := Q } (start N_part_over vs) H := by
  obtain ⟨p, r, ⟨a, m⟩, ⟨b, n⟩, rfl, hp, hr, bx, bY, nb, q⟩ := h
  obtain ⟨ba, bm⟩ := bx
  obtain ⟨bb, bn⟩ := bY
  dsimp only at ba bm bb bn nb q
  unfold t_part_over
  walk_at "go"
  refine w_shlI (shlB ba (by omega)) ?_
  walk_at "go"
  refine w_shlI (shlB bb (by omega)) ?_
  walk_at "go"
  rw [Int.toNat_natCast, Int.toNat_natCast]
  have ne : b * 2 ^ m ≠ 0 := Int.mul_ne_zero nb (two_ne m)
  refine ⟨_, _, rfl, ne, (bits_pow bb).mono (by omega), fun s hs => ?_⟩
  rw [pn_rat, pd_rat ne]
  exact q s hs
theorem p_halvings {K : PySem.W.Frag} {vs : List V} {H : Hp} {Q : VK} {E : XK} (h : spHalvings vs H Q E) : t_halvings K { nx := fun _ H' => Q .non H', rt := Q } (start N_halvings vs) H := by
  obtain ⟨n, rfl, q⟩ := h
  unfold t_halvings
  walk_at "go"
  exact q

def spIsWhole : Sp := fun vs H Q _ => ∃ (p : Addr) (a b : Int), vs = [.ref p] ∧ H p = some (.tup [.int a, .int b]) ∧ ∀ H', Same H H' → Q (.bl true) H'
def spRight : Sp := fun vs H Q _ => ∃ (p r : Addr) (x y : Int × Nat), vs = [.ref p, .ref r] ∧ H p = some (pt x) ∧ H r = some (pt y) ∧ PB 2000 x ∧ PB 2000 y ∧ ∀ H', Same H H' → Q (.bl true) H'
def spLaw (K : PySem.W.Frag) : Sp := fun vs H Q _ => ∃ (a : Addr) (ns : List Int), vs = [.ref a] ∧ SqL K H a (ns.map V.int) ∧ ns.length ≤ 63 ∧ ∀ H', Q (.bl true) H'

-- names: 0:_law_num 1:_law_e
abbrev N_l_part : List Str := ["_law_num", "_law_e"]
def t_l_part (K : PySem.W.Frag) : TS :=
  (tSeq (tWhile (tAnd (tTest (tOp rGtI (tVar 1) (tC (.int 0)))) (tTest (tOp rEq (tOp rModI (tVar 0) (tC (.int 2))) (tC (.int 0))))) (tSeq (tAsg (tOp rDivI (tVar 0) (tC (.int 2))) (gName 0))
      (tAsg (tOp rSubI (tVar 1) (tC (.int 1))) (gName 1))))
    (tRet (tTup (tCons (tVar 0) (tCons (tVar 1) tNil)))))

-- names: 0:_law_found 1:_law_one
abbrev N_l_whole : List Str := ["_law_found", "_law_one"]
def t_l_whole (K : PySem.W.Frag) : TS :=
  (tRet (tAndV (tCB (rIsi K) (tCons (tVar 0) (tCons (tC (.ty "tuple")) tNil))) (tOp (rEqD K) (tLc (iTup K (tVar 0)) (gName 1) (tB (tCB (rIsi K) (tCons (tVar 1) (tCons (tC (.ty "bool")) tNil)))) (tVar 1) [1]) (tLst tNil))))

-- names: 0:_law_one 1:_law_other 2:_law_e 3:_law_mine 4:_law_others 5:_law_turn 6:_law_found
abbrev N_l_right : List Str := ["_law_one", "_law_other", "_law_e", "_law_mine", "_law_others", "_law_turn", "_law_found"]
def t_l_right (K : PySem.W.Frag) : TS :=
  (tSeq (tAsg (tOp rAddI (tOp (rIxT K) (tVar 0) (tC (.int 1))) (tOp (rIxT K) (tVar 1) (tC (.int 1)))) (gName 2))
    (tSeq (tAsg (tOp rMulX (tOp (rIxT K) (tVar 0) (tC (.int 0))) (tOp rShlI (tC (.int 1)) (tOp (rIxT K) (tVar 1) (tC (.int 1))))) (gName 3))
    (tSeq (tAsg (tOp rMulX (tOp (rIxT K) (tVar 1) (tC (.int 0))) (tOp rShlI (tC (.int 1)) (tOp (rIxT K) (tVar 0) (tC (.int 1))))) (gName 4))
    (tSeq (tFor (iRng1 (tCons (tC (.int 2)) tNil)) (gName 5) (tSeq (tAsg (tLst (tCons (tCall spPartPlus [] E0 (tCons (tVar 0) (tCons (tVar 1) tNil))) (tCons (tCall spPartLess [] E0 (tCons (tVar 0) (tCons (tVar 1) tNil))) tNil))) (gName 6))
      (tSeq (tIfS (tTest (tOp (rNeD K) (tVar 6) (tLst (tCons (tCall spPart [] E0 (tCons (tOp rAddI (tVar 3) (tVar 4)) (tCons (tVar 2) tNil))) (tCons (tCall spPart [] E0 (tCons (tOp rSubI (tVar 3) (tVar 4)) (tCons (tVar 2) tNil))) tNil))))) (tRet (tC (.bl false))) tNext)
      (tIfS (tOr (tNot (tB (tCall spIsWhole [] E0 (tCons (tOp (rIx K) (tVar 6) (tC (.int 0))) tNil)))) (tOr (tNot (tB (tCall spIsWhole [] E0 (tCons (tOp (rIx K) (tVar 6) (tC (.int 1))) tNil)))) (tOr (tNot (tB (tCall (spIsPart K) [] E0 (tCons (tOp (rIx K) (tVar 6) (tC (.int 0))) tNil)))) (tNot (tB (tCall (spIsPart K) [] E0 (tCons (tOp (rIx K) (tVar 6) (tC (.int 1))) tNil))))))) (tRet (tC (.bl false))) tNext))))
    (tSeq (tIfS (tTest (tOp rEq (tOp (rIxT K) (tVar 1) (tC (.int 0))) (tC (.int 0)))) (tRet (tC (.bl true))) tNext)
    (tSeq (tAsg (tCall spPartOver [] E0 (tCons (tVar 0) (tCons (tVar 1) tNil))) (gName 6))
    (tRet (tAndV (tOp rIsB (tCall (spIsPair K) [] E0 (tCons (tVar 6) tNil)) (tC (.bl true))) (tOp rEq (tOp rMulX (tOp (rIx K) (tVar 6) (tC (.int 0))) (tVar 4)) (tOp rMulX (tVar 3) (tOp (rIx K) (tVar 6) (tC (.int 1)))))))))))))

-- names: 0:_law_many 1:_law_found 2:_law_power
abbrev N_l_halvings : List Str := ["_law_many", "_law_found", "_law_power"]
def t_l_halvings (K : PySem.W.Frag) : TS :=
  (tSeq (tAsg (tC (.int 0)) (gName 1))
    (tSeq (tAsg (tC (.int 1)) (gName 2))
    (tSeq (tWhile (tTest (tOp rLeI (tVar 2) (tVar 0))) (tSeq (tAsg (tOp rMulI (tVar 2) (tC (.int 2))) (gName 2))
      (tAsg (tOp rAddI (tVar 1) (tC (.int 1))) (gName 1))))
    (tRet (tVar 1)))))

-- names: 0:_law_script 1:_law_cell 2:_law_source 3:_law_num 4:_law_e 5:_law_one 6:_law_drawn 7:_law_some 8:_law_other 9:_law_many 10:_law_k
abbrev N_law : List Str := ["_law_script", "_law_cell", "_law_source", "_law_num", "_law_e", "_law_one", "_law_drawn", "_law_some", "_law_other", "_law_many", "_law_k"]
def t_law (K : PySem.W.Frag) : TS :=
  (tSeq (tFor (iList K (tOp rCat (tLst (tCons (tCall (spCellAt K) [] E0 (tCons (tVar 0) (tCons (tC (.int 0)) tNil))) tNil)) (tSl (rSlL K) (tVar 0) (tPart (tC (.int 1))) (tPart (tC (.int 20)))))) (gName 1) (tSeq (tAsg (tCall spBegin [] E0 (tCons (tVar 1) tNil)) (gName 2))
      (tSeq (tAsg (tCall spFar [] E0 (tCons (tVar 2) tNil)) (gName 3))
      (tSeq (tAsg (tOp (rIxL K) (tLst (tCons (tC (.int 0)) (tCons (tCall spDraw [] E0 (tCons (tVar 2) (tCons (tC (.int 9)) tNil))) (tCons (tCall spDraw [] E0 (tCons (tVar 2) (tCons (tC (.int 101)) tNil))) tNil)))) (tCall spDraw [] E0 (tCons (tVar 2) (tCons (tC (.int 3)) tNil)))) (gName 4))
      (tSeq (tAsg (tCall spPart [] E0 (tCons (tVar 3) (tCons (tVar 4) tNil))) (gName 5))
      (tSeq (tIfS (tOr (tTest (tOp (rNeD K) (tVar 5) (tCall spPart [] E0 (tCons (tVar 3) (tCons (tVar 4) tNil))))) (tOr (tNot (tB (tCall spIsWhole [] E0 (tCons (tVar 5) tNil)))) (tOr (tTest (tOp (rNeD K) (tCall spPart [] E0 (tCons (tOp rMulI (tVar 3) (tC (.int 8))) (tCons (tOp rAddI (tVar 4) (tC (.int 3))) tNil))) (tVar 5))) (tTest (tOp (rNeD K) (tCall spPart [] E0 (tCons (tVar 3) (tCons (tC (.int 0)) tNil))) (tTup (tCons (tVar 3) (tCons (tC (.int 0)) tNil)))))))) (tRet (tC (.bl false))) tNext)
      (tSeq (tAsg (tCall spPart [] E0 (tCons (tCall spFar [] E0 (tCons (tVar 2) tNil)) (tCons (tCall spDraw [] E0 (tCons (tVar 2) (tCons (tC (.int 80)) tNil))) tNil))) (gName 6))
      (tSeq (tAsg (tLst (tCons (tVar 6) (tCons (tVar 6) (tCons (tVar 5) (tCons (tCall spPart [] E0 (tCons (tOp rSubI (tC (.int 0)) (tVar 3)) (tCons (tVar 4) tNil))) (tCons (tCall spPart [] E0 (tCons (tCall spFar [] E0 (tCons (tVar 2) tNil)) (tCons (tOp (rIxT K) (tVar 5) (tC (.int 1))) tNil))) (tCons (tCall spPart [] E0 (tCons (tOp rAddI (tOp rMulI (tVar 3) (tC (.int 2))) (tC (.int 1))) (tCons (tOp rAddI (tVar 4) (tC (.int 1))) tNil))) tNil))))))) (gName 7))
      (tSeq (tAsg (tOp (rIxL K) (tVar 7) (tCall spDraw [] E0 (tCons (tVar 2) (tCons (tC (.int 6)) tNil)))) (gName 8))
      (tSeq (tIfS (tOr (tNot (tB (tCall spRight [] E0 (tCons (tVar 5) (tCons (tVar 8) tNil))))) (tNot (tB (tCall spRight [] E0 (tCons (tVar 8) (tCons (tVar 5) tNil)))))) (tRet (tC (.bl false))) tNext)
      (tSeq (tAsg (tCB rAbs (tCons (tCall spFar [] E0 (tCons (tVar 2) tNil)) tNil)) (gName 9))
      (tIfS (tTest (tOp rNe (tCall spHalvings [] E0 (tCons (tVar 9) tNil)) (tCall spHalvings [] E0 (tCons (tVar 9) tNil)))) (tRet (tC (.bl false))) tNext))))))))))))
    (tRet (tAndV (tOp (rEqD K) (tLc (iRng1 (tCons (tC (.int 9)) tNil)) (gName 10) tYes (tCall spHalvings [] E0 (tCons (tVar 10) tNil)) [10]) (tLst (tCons (tC (.int 0)) (tCons (tC (.int 1)) (tCons (tC (.int 2)) (tCons (tC (.int 2)) (tCons (tC (.int 3)) (tCons (tC (.int 3)) (tCons (tC (.int 3)) (tCons (tC (.int 3)) (tCons (tC (.int 4)) tNil))))))))))) (tOp (rEqD K) (tCall spPart [] E0 (tCons (tC (.int 0)) (tCons (tC (.int 50)) tNil))) (tTup (tCons (tC (.int 0)) (tCons (tC (.int 0)) tNil)))))))

theorem p_l_part_len {vs : List V} {H : Hp} {Q : VK} {E : XK} (h : spPart vs H Q E) : vs.length = 2 := p_part_len h
theorem p_l_part {K : PySem.W.Frag} {vs : List V} {H : Hp} {Q : VK} {E : XK} (h : spPart vs H Q E) : t_l_part K { nx := fun _ H' => Q .non H', rt := Q } (start N_l_part vs) H := by
  obtain ⟨n, e, rfl, q⟩ := h
  unfold t_l_part
  walk_at "go"
  refine w_while (fun (p : Int × Nat) => [some (.int p.1), some (.int (p.2 : Int))]) (fun p H' => H = H' ∧ Mth.prt p.1 p.2 = Mth.prt n e) (fun p => p.2) (n, e) rfl ⟨rfl, rfl⟩ ?_
  rintro ⟨a, m⟩ H' ⟨rfl, c⟩
  dsimp only at c ⊢
  have fin : (m = 0 ∨ a % 2 = 1) → (tRet (tTup (tCons (tVar 0) (tCons (tVar 1) tNil)))) { nx := fun _ H' => Q .non H', rt := Q } [some (.int a), some (.int (m : Int))] H := fun h => by
    walk_at "go"
    refine ⟨by show 2 ≤ sizeLine; decide, fun p hp => ?_⟩
    have := q p hp
    rw [← c, Mth.prt_self h] at this
    exact this
  walk_at "go"
  refine if_2 (fun h => ?_) (fun h => ?_)
  · walk_at "go"
    refine if_2 (fun h2 => ?_) (fun h2 => ?_)
    · have e2 : a % 2 = 0 := V.int.inj h2
      refine w_turn ?_
      walk_at "go"
      obtain ⟨m', rfl⟩ : ∃ m', m = m' + 1 := ⟨m - 1, by omega⟩
      have e3 : ((m' + 1 : Nat) : Int) - 1 = (m' : Int) := by omega
      rw [e3]
      exact ⟨(a / 2, m'), rfl, ⟨rfl, by rw [← c, Mth.prt_even e2]⟩, Nat.lt_succ_self _⟩
    · exact fin (.inr (by have : ¬ a % 2 = 0 := fun z => h2 (by rw [z]); omega))
  · refine if_f rfl ?_
    exact fin (.inl (by omega))

theorem p_l_whole_len {vs : List V} {H : Hp} {Q : VK} {E : XK} (h : spIsWhole vs H Q E) : vs.length = 1 := by
  obtain ⟨p, a, b, rfl, _⟩ := h; rfl
theorem p_l_whole {K : PySem.W.Frag} {vs : List V} {H : Hp} {Q : VK} {E : XK} (h : spIsWhole vs H Q E) : t_l_whole K { nx := fun _ H' => Q .non H', rt := Q } (start N_l_whole vs) H := by
  obtain ⟨p, a, b, rfl, hp, q⟩ := h
  unfold t_l_whole
  walk_at "go"
  refine ⟨p, rfl, ⟨_, sqT hp⟩, fun L hL => lc_tup (K := K) (xs := [.int a, .int b]) (fun i H' => Same H H' ∧ H' L = some (.lst [])) ⟨same_new hL, upd_same⟩ (fun i H' _ P => sqT (P.1 _ _ hp)) ?_ ?_⟩
  · rintro i x H' hx ⟨sm, hl⟩
    obtain ⟨z, rfl⟩ : ∃ z, x = V.int z := by
      rcases i with _ | _ | i
      · exact ⟨a, (Option.some.inj hx).symm⟩
      · exact ⟨b, (Option.some.inj hx).symm⟩
      · simp at hx
    walk_at "go"
    refine ⟨rfl, ?_⟩
    walk_at "go"
    exact ⟨sm, hl⟩
  · rintro H' ⟨sm, hl⟩
    walk_at "go"
    refine ⟨Nat.zero_le _, fun L2 hL2 => ?_⟩
    refine w_eqD_same (dpN (keep hl hL2)) (dpN upd_same) rfl ?_
    exact q _ (sm.trans (same_new hL2))
theorem p_l_halvings_len {vs : List V} {H : Hp} {Q : VK} {E : XK} (h : spHalvings vs H Q E) : vs.length = 1 := p_halvings_len h
theorem bits_by {n c : Nat} (h1 : n < 2 ^ c) (h2 : c = 0 ∨ 2 ^ (c - 1) ≤ n) : Builtin.Int.intBits (n : Int) = c := by
  unfold Builtin.Int.intBits
  rcases h2 with h | h
  · subst h
    have : n = 0 := by rw [Nat.pow_zero] at h1; omega
    subst this; rfl
  · have hp : 0 < 2 ^ (c - 1) := Nat.pow_pos (by decide)
    have hn : n ≠ 0 := by omega
    have hc : c ≠ 0 := fun z => by subst z; rw [Nat.pow_zero] at h1; omega
    rw [if_neg (by simpa using hn), Int.natAbs_natCast]
    have e : n.log2 = c - 1 := (Nat.log2_eq_iff hn).mpr ⟨h, by rw [show c - 1 + 1 = c by omega]; exact h1⟩
    omega
theorem p_l_halvings {K : PySem.W.Frag} {vs : List V} {H : Hp} {Q : VK} {E : XK} (h : spHalvings vs H Q E) : t_l_halvings K { nx := fun _ H' => Q .non H', rt := Q } (start N_l_halvings vs) H := by
  obtain ⟨n, rfl, q⟩ := h
  unfold t_l_halvings
  walk_at "go"
  refine w_while (fun (c : Nat) => [some (.int (n : Int)), some (.int (c : Int)), some (.int ((2 ^ c : Nat) : Int))]) (fun c H' => H = H' ∧ (c = 0 ∨ 2 ^ (c - 1) ≤ n)) (fun c => n + 1 - 2 ^ c) 0 rfl ⟨rfl, .inl rfl⟩ ?_
  rintro c H' ⟨rfl, hc⟩
  dsimp only
  have hp : 0 < 2 ^ c := Nat.pow_pos (by decide)
  walk_at "go"
  refine if_2 (fun h => ?_) (fun h => ?_)
  · refine w_turn ?_
    walk_at "go"
    have e1 : ((2 ^ c : Nat) : Int) * 2 = ((2 ^ (c + 1) : Nat) : Int) := by rw [Nat.pow_succ]; omega
    have e2 : (c : Int) + 1 = ((c + 1 : Nat) : Int) := by omega
    rw [e1, e2]
    refine ⟨c + 1, rfl, ⟨rfl, .inr (by rw [Nat.add_sub_cancel]; omega)⟩, ?_⟩
    show n + 1 - 2 ^ (c + 1) < n + 1 - 2 ^ c
    rw [Nat.pow_succ]; omega
  · walk_at "go"
    rw [bits_by (c := c) (by omega) hc] at q
    exact q
theorem one_shl (n : Nat) : (1 : Int) * 2 ^ ((n : Int)).toNat = 2 ^ n := by rw [Int.one_mul, Int.toNat_natCast]
theorem cross_rat {a b : Int} (hb : b ≠ 0) : (Rat.divInt a b).num * b = a * (Rat.divInt a b).den := by
  have h := Mth.pn_cross (a := a) hb
  rw [pn_rat, pd_rat hb] at h
  exact h
theorem bits_two {n : Nat} : Bits (n + 1) (2 ^ n) := by
  have h := bits_pow (m := 1) (n := n) (i := 1) (by unfold Bits; decide)
  rw [Int.one_mul, Nat.add_comm] at h
  exact h
theorem dpL {K : PySem.W.Frag} {H : Hp} {L p r : Addr} {x y : Int × Nat} (hL : H L = some (.lst [.ref p, .ref r])) (hp : H p = some (pt x)) (hr : H r = some (pt y)) : Dp K H (.ref L) (.list [.tuple [.int x.1, .int (x.2 : Int)], .tuple [.int y.1, .int (y.2 : Int)]]) :=
  .lst (SqL.of hL) (.cons (dpP hp) (.cons (dpP hr) .nil))
theorem isp_prt {n : Int} {e : Nat} : (decide (0 ≤ ((Mth.prt n e).2 : Int)) && (decide (((Mth.prt n e).2 : Int) = 0) || decide ((Mth.prt n e).1 % 2 = 1))) = true := by
  rw [decide_eq_true (Int.natCast_nonneg _), Bool.true_and]
  rcases Mth.prt_norm e n with h | h
  · rw [h]; rfl
  · rw [decide_eq_true h, Bool.or_true]
theorem p_l_right_len {vs : List V} {H : Hp} {Q : VK} {E : XK} (h : spRight vs H Q E) : vs.length = 2 := by
  obtain ⟨p, r, x, y, rfl, _⟩ := h; rfl
theorem p_l_right {K : PySem.W.Frag} {vs : List V} {H : Hp} {Q : VK} {E : XK} (h : spRight vs H Q E) : t_l_right K { nx := fun _ H' => Q .non H', rt := Q } (start N_l_right vs) H := by
  obtain ⟨p, r, x, y, rfl, hp, hr, bx, bY, q⟩ := h
  obtain ⟨ba, bm⟩ := id bx
  obtain ⟨bb, bn⟩ := id bY
  have X : PB 1000000 x := ⟨ba.mono (by decide), Nat.le_trans bm (by decide)⟩
  have Y : PB 1000000 y := ⟨bb.mono (by decide), Nat.le_trans bn (by decide)⟩
  have t1 : Bits 2001 ((2 : Int) ^ y.2) := bits_two.mono (by omega)
  have t2 : Bits 2001 ((2 : Int) ^ x.2) := bits_two.mono (by omega)
  have b1 : Bits 4001 (x.1 * 2 ^ y.2) := (ba.mul t1)
  have b2 : Bits 4001 (y.1 * 2 ^ x.2) := (bb.mul t2)
  unfold t_l_right
  walk_at "go"
  refine w_shlI (shlB (n := 1) (by unfold Bits; decide) (by omega)) ?_
  rw [one_shl]
  refine w_mulX (mulB ba t1 (by decide)) ?_
  walk_at "go"
  refine w_shlI (shlB (n := 1) (by unfold Bits; decide) (by omega)) ?_
  rw [one_shl]
  refine w_mulX (mulB bb t2 (by decide)) ?_
  walk_at "go"
  have ee : (x.2 : Int) + (y.2 : Int) = ((x.2 + y.2 : Nat) : Int) := by omega
  rw [ee]
  refine ⟨2, rfl, by decide, by decide, for_range (lo := 0) (n := 2) (fun i σ H' => ∃ y5 y6, σ = [some (.ref p), some (.ref r), some (.int ((x.2 + y.2 : Nat) : Int)), some (.int (x.1 * 2 ^ y.2)), some (.int (y.1 * 2 ^ x.2)), y5, y6] ∧ Same H H') ⟨none, none, rfl, Same.refl _⟩ ?_ ?_⟩
  · rintro i σ H1 hi ⟨y5, y6, rfl, s1⟩
    walk_at "go"
    refine ⟨p, r, x, y, rfl, s1 _ _ hp, s1 _ _ hr, X, Y, fun u1 hu1 => ?_⟩
    have s2 := same_in (u := pt (pplus x y)) s1 hu1
    have h2 : (upd H1 u1 (pt (pplus x y))) u1 = some (pt (pplus x y)) := upd_same
    generalize upd H1 u1 (pt (pplus x y)) = H2 at *
    walk_at "go"
    refine ⟨p, r, x, y, rfl, s2 _ _ hp, s2 _ _ hr, X, Y, fun u2 H3 s3 _ h3 => ?_⟩
    walk_at "go"
    refine ⟨by show 2 ≤ sizeLine; decide, fun L hL => ?_⟩
    have g1 := keep (u := .lst [.ref u1, .ref u2]) (s3 _ _ h2) hL
    have g2 := keep (u := .lst [.ref u1, .ref u2]) h3 hL
    have gL : (upd H3 L (.lst [.ref u1, .ref u2])) L = some (.lst [.ref u1, .ref u2]) := upd_same
    have s4 := same_in (u := .lst [.ref u1, .ref u2]) (s2.trans s3) hL
    generalize upd H3 L (.lst [.ref u1, .ref u2]) = H4 at *
    walk_at "go"
    refine ⟨_, x.2 + y.2, rfl, fun u3 hu3 => ?_⟩
    walk_at "go"
    refine ⟨_, x.2 + y.2, rfl, fun u4 hu4 => ?_⟩
    walk_at "go"
    refine ⟨by show 2 ≤ sizeLine; decide, fun L5 hL5 => ?_⟩
    refine w_neD_same (dpL (keep (keep (keep gL hu3) hu4) hL5) (keep (keep (keep g1 hu3) hu4) hL5) (keep (keep (keep g2 hu3) hu4) hL5)) (dpL upd_same (keep (keep upd_same hu4) hL5) (keep upd_same hL5)) (by rfl) ?_
    have k1 := keep (u := .lst [.ref u3, .ref u4]) (keep (u := pt (Mth.prt (x.1 * 2 ^ y.2 - y.1 * 2 ^ x.2) (x.2 + y.2))) (keep (u := pt (Mth.prt (x.1 * 2 ^ y.2 + y.1 * 2 ^ x.2) (x.2 + y.2))) g1 hu3) hu4) hL5
    have k2 := keep (u := .lst [.ref u3, .ref u4]) (keep (u := pt (Mth.prt (x.1 * 2 ^ y.2 - y.1 * 2 ^ x.2) (x.2 + y.2))) (keep (u := pt (Mth.prt (x.1 * 2 ^ y.2 + y.1 * 2 ^ x.2) (x.2 + y.2))) g2 hu3) hu4) hL5
    have kL := keep (u := .lst [.ref u3, .ref u4]) (keep (u := pt (Mth.prt (x.1 * 2 ^ y.2 - y.1 * 2 ^ x.2) (x.2 + y.2))) (keep (u := pt (Mth.prt (x.1 * 2 ^ y.2 + y.1 * 2 ^ x.2) (x.2 + y.2))) gL hu3) hu4) hL5
    have s5 := same_in (u := .lst [.ref u3, .ref u4]) (same_in (u := pt (Mth.prt (x.1 * 2 ^ y.2 - y.1 * 2 ^ x.2) (x.2 + y.2))) (same_in (u := pt (Mth.prt (x.1 * 2 ^ y.2 + y.1 * 2 ^ x.2) (x.2 + y.2))) s4 hu3) hu4) hL5
    clear hu3 hu4 hL5
    generalize (upd (upd (upd H4 u3 (pt (Mth.prt (x.1 * 2 ^ y.2 + y.1 * 2 ^ x.2) (x.2 + y.2)))) u4 (pt (Mth.prt (x.1 * 2 ^ y.2 - y.1 * 2 ^ x.2) (x.2 + y.2)))) L5 (.lst [.ref u3, .ref u4])) = H5 at *
    walk_at "go"
    refine ⟨u1, _, _, rfl, k1, fun H6 s6 => ?_⟩
    have kL6 := s6 _ _ kL
    walk_at "go"
    refine ⟨u2, _, _, rfl, s6 _ _ k2, fun H7 s7 => ?_⟩
    have kL7 := s7 _ _ kL6
    walk_at "go"
    refine ⟨u1, _, _, rfl, s7 _ _ (s6 _ _ k1), ?_⟩
    unfold pplus
    rw [isp_prt]
    walk_at "go"
    refine ⟨u2, _, _, rfl, s7 _ _ (s6 _ _ k2), ?_⟩
    unfold pless
    rw [isp_prt]
    walk_at "go"
    exact ⟨_, _, rfl, s5.trans (s6.trans s7)⟩
  · rintro σ H1 ⟨y5, y6, rfl, s1⟩
    have hp1 := s1 _ _ hp
    have hr1 := s1 _ _ hr
    walk_at "go"
    refine if_2 (fun h => ?_) (fun h => ?_)
    · walk_at "go"
      exact q _ s1
    · have ny : y.1 ≠ 0 := fun z => h (by rw [z])
      walk_at "go"
      refine ⟨p, r, x, y, rfl, hp1, hr1, bx, bY, ny, fun s hs => ?_⟩
      have ne : y.1 * 2 ^ x.2 ≠ 0 := Int.mul_ne_zero ny (two_ne x.2)
      have cr := cross_rat (a := x.1 * 2 ^ y.2) ne
      have bw : RB 4001 (Rat.divInt (x.1 * 2 ^ y.2) (y.1 * 2 ^ x.2)) := rb_div ne b1 b2
      generalize Rat.divInt (x.1 * 2 ^ y.2) (y.1 * 2 ^ x.2) = w at *
      walk_at "go"
      refine ⟨s, w.num, w.den, rfl, upd_same, ?_⟩
      have g : Int.gcd w.num w.den = 1 := by
        have := w.reduced
        unfold Int.gcd
        rw [Int.natAbs_natCast]
        exact this
      rw [decide_eq_true (by have := den_pos w; omega), decide_eq_true g]
      walk_at "go"
      refine w_mulX (mulB bw.1 b2 (by decide)) ?_
      walk_at "go"
      refine w_mulX (mulB b1 bw.den (by decide)) ?_
      walk_at "go"
      rw [cr, decide_eq_true rfl]
      exact q _ (same_in s1 hs)

theorem pb_prt {n : Int} {e m : Nat} (h : Bits m n) (he : e ≤ m) : PB m (Mth.prt n e) := by
  obtain ⟨h1, h2⟩ := Mth.prt_le e n
  exact ⟨h.le h1, Nat.le_trans h2 he⟩
/-- [0, draw 9, draw 101][draw 3] -/
theorem e_ok {K : PySem.W.Frag} {σ : L2.St} {H : Hp} {Q : VK} {l : Addr} {m : Int} (hm : 0 < m ∧ m < 1000) (hσ : σ[2]? = some (some (.ref l))) (hs : Src H l) (q : ∀ (e : Nat) H', e < 1000 → Dr l H H' → Q (.int (e : Int)) H') :
    tOp (rIxL K) (tLst (tCons (tC (.int 0)) (tCons (tCall spDraw [] E0 (tCons (tVar 2) (tCons (tC (.int 9)) tNil))) (tCons (tCall spDraw [] E0 (tCons (tVar 2) (tCons (tC (.int m)) tNil))) tNil)))) (tCall spDraw [] E0 (tCons (tVar 2) (tCons (tC (.int 3)) tNil))) σ H Q := by
  have hb : m.natAbs < 2 ^ 200 := Nat.lt_of_lt_of_le (by omega : m.natAbs < 1000) (by decide)
  refine w_op (w_lst (w_cons (w_con (w_cons (w_call (w_cons (w_var hσ (w_cons (w_con (w_nil ?_))))))))))
  refine ⟨l, 9, rfl, hs, by decide, by decide, fun d1 H1 a0 a1 k1 => ?_⟩
  refine w_cons (w_call (w_cons (w_var hσ (w_cons (w_con (w_nil ?_))))))
  refine ⟨l, m, rfl, k1.src, hm.1, hb, fun d2 H2 b0 b1 k2 => ?_⟩
  refine w_nil ⟨by show 3 ≤ sizeLine; decide, fun p hp => ?_⟩
  refine w_call (w_cons (w_var hσ (w_cons (w_con (w_nil ?_)))))
  have kk := (k1.trans k2).new (o := .lst [.int 0, .int d1, .int d2]) hp
  have hlp : p ≠ l := fun e => by
    obtain ⟨x, y, z, h⟩ := k2.src
    rw [e, h] at hp; cases hp
  refine ⟨l, 3, rfl, kk.src, by decide, by decide, fun d H3 e0 e1 k3 => ?_⟩
  have hl := k3.keep p _ hlp upd_same
  have dd := kk.trans k3
  obtain ⟨n1, rfl⟩ := Int.eq_ofNat_of_zero_le a0
  obtain ⟨n2, rfl⟩ := Int.eq_ofNat_of_zero_le b0
  rcases (by omega : d = 0 ∨ d = 1 ∨ d = 2) with h | h | h <;> subst h <;> refine w_ixL (sqL hl) rfl ?_
  · exact q 0 _ (by decide) dd
  · exact q n1 _ (by omega) dd
  · exact q n2 _ (by omega) dd
theorem p_law_len {K : PySem.W.Frag} {vs : List V} {H : Hp} {Q : VK} {E : XK} (h : spLaw K vs H Q E) : vs.length = 1 := by
  obtain ⟨a, b, rfl, _⟩ := h; rfl
/-- all that is needed of the parts that stand at their places -/
def PtAt (H : Hp) (s : Addr) (x : Int × Nat) : Prop := H s = some (pt x)
theorem p_law {K : PySem.W.Frag} {vs : List V} {H : Hp} {Q : VK} {E : XK} (h : spLaw K vs H Q E) : t_law K { nx := fun _ H' => Q .non H', rt := Q } (start N_law vs) H := by
  obtain ⟨a, ns, rfl, hS, hlen, q⟩ := h
  unfold t_law
  refine w_seq (w_cells (fun σ => ∃ y1 y2 y3 y4 y5 y6 y7 y8 y9 y10, σ = [some (.ref a), y1, y2, y3, y4, y5, y6, y7, y8, y9, y10]) ⟨none, none, none, none, none, none, none, none, none, none, rfl⟩ rfl hS hlen ?_ ?_)
  · rintro z σ H1 N ⟨y1, y2, y3, y4, y5, y6, y7, y8, y9, y10, rfl⟩ _ hN
    walk_at "go"
    refine ⟨z, rfl, fun l H2 hl s2 src => ?_⟩
    walk_at "go"
    refine ⟨l, rfl, src, fun num H3 bn d3 => ?_⟩
    refine w_seq (w_asg (e_ok (m := 101) (by decide) (by rfl) d3.src fun e H4 he d4 => ?_))
    have d24 := d3.trans d4
    walk_at "go"
    -- one
    refine ⟨num, e, rfl, fun po hpo => ?_⟩
    have d25 := d24.new (o := pt (Mth.prt num e)) hpo
    have ho5 : (upd H4 po (pt (Mth.prt num e))) po = some (pt (Mth.prt num e)) := upd_same
    generalize upd H4 po (pt (Mth.prt num e)) = H5 at *
    walk_at "go"
    refine ⟨num, e, rfl, fun p1 h1 => ?_⟩
    refine w_neD_same (dpP (keep ho5 h1)) (dpP upd_same) rfl ?_
    have d26 := d25.new (o := pt (Mth.prt num e)) h1
    have ho6 := keep (u := pt (Mth.prt num e)) ho5 h1
    generalize upd H5 p1 (pt (Mth.prt num e)) = H6 at *
    walk_at "go"
    refine ⟨po, _, _, rfl, ho6, fun H7 s7 => ?_⟩
    have d27 := d26.trans (Dr.same d26.src s7)
    have ho7 := s7 _ _ ho6
    walk_at "go"
    refine ⟨num * 8, e + 3, by rw [Int.natCast_add]; rfl, fun p2 h2 => ?_⟩
    have e8 : Mth.prt (num * 8) (e + 3) = Mth.prt num e := Mth.prt_pow num e 3
    rw [e8]
    have d28 := d27.new (o := pt (Mth.prt num e)) h2
    have ho8 := keep (u := pt (Mth.prt num e)) ho7 h2
    have g8 : (upd H7 p2 (pt (Mth.prt num e))) p2 = some (pt (Mth.prt num e)) := upd_same
    generalize upd H7 p2 (pt (Mth.prt num e)) = H8 at *
    walk_at "go"
    refine w_neD_same (dpP g8) (dpP ho8) rfl ?_
    walk_at "go"
    refine ⟨num, 0, rfl, fun p3 h3 => ?_⟩
    walk_at "go"
    refine ⟨by show 2 ≤ sizeLine; decide, fun p4 h4 => ?_⟩
    have h3' : (upd H8 p3 (pt (Mth.prt num 0))) p3 = some (.tup [.int num, .int 0]) := upd_same
    refine w_neD_same (dpP (keep h3' h4)) (dpP upd_same) rfl ?_
    have d29 := (d28.new (o := pt (Mth.prt num 0)) h3).new (o := .tup [.int num, .int 0]) h4
    have ho9 := keep (u := .tup [.int num, .int 0]) (keep (u := pt (Mth.prt num 0)) ho8 h3) h4
    clear h3' h4 h3
    generalize upd (upd H8 p3 (pt (Mth.prt num 0))) p4 (.tup [.int num, .int 0]) = H9 at *
    walk_at "go"
    -- drawn
    refine ⟨l, rfl, d29.src, fun f1 H10 bf1 d10 => ?_⟩
    walk_at "go"
    refine ⟨l, 80, rfl, d10.src, by decide, by decide, fun e1 H11 e10 e11 d11 => ?_⟩
    obtain ⟨e1, rfl⟩ := Int.eq_ofNat_of_zero_le e10
    have d211 := d29.trans (d10.trans d11)
    have ho11 := d11.tup (d10.tup ho9)
    walk_at "go"
    refine ⟨f1, e1, rfl, fun pd hpd => ?_⟩
    have d212 := d211.new (o := pt (Mth.prt f1 e1)) hpd
    have ho12 := keep (u := pt (Mth.prt f1 e1)) ho11 hpd
    have hd12 : (upd H11 pd (pt (Mth.prt f1 e1))) pd = some (pt (Mth.prt f1 e1)) := upd_same
    generalize upd H11 pd (pt (Mth.prt f1 e1)) = H12 at *
    walk_at "go"
    -- the list
    refine ⟨0 - num, e, rfl, fun pa hpa => ?_⟩
    have d213 := d212.new (o := pt (Mth.prt (0 - num) e)) hpa
    have ho13 := keep (u := pt (Mth.prt (0 - num) e)) ho12 hpa
    have hd13 := keep (u := pt (Mth.prt (0 - num) e)) hd12 hpa
    have ha13 : (upd H12 pa (pt (Mth.prt (0 - num) e))) pa = some (pt (Mth.prt (0 - num) e)) := upd_same
    generalize upd H12 pa (pt (Mth.prt (0 - num) e)) = H13 at *
    walk_at "go"
    refine ⟨l, rfl, d213.src, fun f2 H14 bf2 d14 => ?_⟩
    have d214 := d213.trans d14
    have ho14 := d14.tup ho13
    have hd14 := d14.tup hd13
    have ha14 := d14.tup ha13
    walk_at "go"
    refine ⟨f2, (Mth.prt num e).2, rfl, fun pb hpb => ?_⟩
    have d215 := d214.new (o := pt (Mth.prt f2 (Mth.prt num e).2)) hpb
    have ho15 := keep (u := pt (Mth.prt f2 (Mth.prt num e).2)) ho14 hpb
    have hd15 := keep (u := pt (Mth.prt f2 (Mth.prt num e).2)) hd14 hpb
    have ha15 := keep (u := pt (Mth.prt f2 (Mth.prt num e).2)) ha14 hpb
    have hb15 : (upd H14 pb (pt (Mth.prt f2 (Mth.prt num e).2))) pb = some (pt (Mth.prt f2 (Mth.prt num e).2)) := upd_same
    generalize upd H14 pb (pt (Mth.prt f2 (Mth.prt num e).2)) = H15 at *
    walk_at "go"
    refine ⟨num * 2 + 1, e + 1, by rw [Int.natCast_add]; rfl, fun pc hpc => ?_⟩
    walk_at "go"
    refine ⟨by show 6 ≤ sizeLine; decide, fun L hL => ?_⟩
    have d216 := (d215.new (o := pt (Mth.prt (num * 2 + 1) (e + 1))) hpc).new (o := .lst [.ref pd, .ref pd, .ref po, .ref pa, .ref pb, .ref pc]) hL
    have ho16 := keep (u := .lst [.ref pd, .ref pd, .ref po, .ref pa, .ref pb, .ref pc]) (keep (u := pt (Mth.prt (num * 2 + 1) (e + 1))) ho15 hpc) hL
    have hd16 := keep (u := .lst [.ref pd, .ref pd, .ref po, .ref pa, .ref pb, .ref pc]) (keep (u := pt (Mth.prt (num * 2 + 1) (e + 1))) hd15 hpc) hL
    have ha16 := keep (u := .lst [.ref pd, .ref pd, .ref po, .ref pa, .ref pb, .ref pc]) (keep (u := pt (Mth.prt (num * 2 + 1) (e + 1))) ha15 hpc) hL
    have hb16 := keep (u := .lst [.ref pd, .ref pd, .ref po, .ref pa, .ref pb, .ref pc]) (keep (u := pt (Mth.prt (num * 2 + 1) (e + 1))) hb15 hpc) hL
    have hc16 : (upd (upd H15 pc (pt (Mth.prt (num * 2 + 1) (e + 1)))) L (.lst [.ref pd, .ref pd, .ref po, .ref pa, .ref pb, .ref pc])) pc = some (pt (Mth.prt (num * 2 + 1) (e + 1))) := keep upd_same hL
    have hL16 : (upd (upd H15 pc (pt (Mth.prt (num * 2 + 1) (e + 1)))) L (.lst [.ref pd, .ref pd, .ref po, .ref pa, .ref pb, .ref pc])) L = some (.lst [.ref pd, .ref pd, .ref po, .ref pa, .ref pb, .ref pc]) := upd_same
    have nLl : L ≠ l := fun eL => by
      obtain ⟨x, y, z, h⟩ := (d215.new (o := pt (Mth.prt (num * 2 + 1) (e + 1))) hpc).src
      rw [eL, h] at hL; cases hL
    clear hL hpc
    generalize (upd (upd H15 pc (pt (Mth.prt (num * 2 + 1) (e + 1)))) L (.lst [.ref pd, .ref pd, .ref po, .ref pa, .ref pb, .ref pc])) = H16 at *
    walk_at "go"
    refine ⟨l, 6, rfl, d216.src, by decide, by decide, fun d H17 k0 k1 d17 => ?_⟩
    have d217 := d216.trans d17
    have ho17 := d17.tup ho16
    have hL17 := d17.keep L _ nLl hL16
    obtain ⟨ps, u, hu, bu, at2⟩ : ∃ (s : Addr) (u : Int × Nat), H17 s = some (pt u) ∧ PB 2000 u ∧ atI [V.ref pd, .ref pd, .ref po, .ref pa, .ref pb, .ref pc] d = some (.ref s) := by
      have bo := pb_prt (m := 2000) (bn.mono (by decide)) (by omega : e ≤ 2000)
      have bd := pb_prt (m := 2000) (bf1.mono (by decide)) (by omega : e1 ≤ 2000)
      have bm : Bits 2000 (0 - num) := Bits.mono (m := 200) (by unfold Bits at *; omega) (by decide)
      have b3 : Bits 2000 (num * 2 + 1) := (((bn.mul (show Bits 2 2 by unfold Bits; decide)).add (show Bits (200 + 2) 1 by unfold Bits; decide))).mono (by decide)
      rcases (by omega : d = 0 ∨ d = 1 ∨ d = 2 ∨ d = 3 ∨ d = 4 ∨ d = 5) with h | h | h | h | h | h <;> subst h
      · exact ⟨pd, _, d17.tup hd16, bd, rfl⟩
      · exact ⟨pd, _, d17.tup hd16, bd, rfl⟩
      · exact ⟨po, _, ho17, bo, rfl⟩
      · exact ⟨pa, _, d17.tup ha16, pb_prt bm (by omega), rfl⟩
      · exact ⟨pb, _, d17.tup hb16, pb_prt (bf2.mono (by decide)) (by have := (Mth.prt_le e num).2; omega), rfl⟩
      · exact ⟨pc, _, d17.tup hc16, pb_prt b3 (by omega), rfl⟩
    have bo := pb_prt (m := 2000) (bn.mono (by decide)) (by omega : e ≤ 2000)
    refine w_ixL (sqL hL17) at2 ?_
    walk_at "go"
    refine ⟨po, ps, _, u, rfl, ho17, hu, bo, bu, fun H18 s18 => ?_⟩
    walk_at "go"
    refine ⟨ps, po, u, _, rfl, s18 _ _ hu, s18 _ _ ho17, bu, bo, fun H19 s19 => ?_⟩
    have s19 := s18.trans s19
    have d219 := d217.trans (Dr.same d217.src s19)
    walk_at "go"
    refine ⟨l, rfl, d219.src, fun many H20 bm d20 => ?_⟩
    walk_at "go"
    refine ⟨many.natAbs, rfl, ?_⟩
    walk_at "go"
    refine ⟨many.natAbs, rfl, ?_⟩
    walk_at "go"
    rw [decide_eq_true rfl]
    walk_at "go"
    exact hN _ _ ⟨_, _, _, _, _, _, _, _, _, _, rfl⟩ ((d219.trans d20).same_of s2 hl)
  · rintro σ H1 ⟨y1, y2, y3, y4, y5, y6, y7, y8, y9, y10, rfl⟩ _
    walk_at "go"
    refine ⟨9, rfl, by decide, by decide, fun L hL => lc_range (lo := 0) (n := 9) (fun i H' => H' L = some (.lst ((List.range i).map fun k : Nat => .int ((Builtin.Int.intBits (k : Int) : Nat) : Int)))) upd_same ?_ ?_⟩
    · rintro i H3 hi hD
      walk_at "go"
      refine ⟨rfl, ?_⟩
      refine w_yes (if_t rfl ?_)
      walk_at "go"
      refine ⟨i, by rw [Int.zero_add], ?_⟩
      refine ⟨_, hD, Nat.lt_of_le_of_lt (by rw [List.length_map, List.length_range]; omega : _ ≤ 9) (by decide), ?_⟩
      rw [upd_same, List.range_succ, List.map_append]
      rfl
    · rintro H3 hD
      have el : ((List.range 9).map fun k : Nat => V.int ((Builtin.Int.intBits (k : Int) : Nat) : Int)) = [.int 0, .int 1, .int 2, .int 2, .int 3, .int 3, .int 3, .int 3, .int 4] := by decide +kernel
      rw [el] at hD
      walk_at "go"
      refine ⟨by show 9 ≤ sizeLine; decide, fun L2 hL2 => ?_⟩
      have dp : ∀ {H' : Hp} {L' : Addr}, H' L' = some (.lst [.int 0, .int 1, .int 2, .int 2, .int 3, .int 3, .int 3, .int 3, .int 4]) → Dp K H' (.ref L') (.list [.int 0, .int 1, .int 2, .int 2, .int 3, .int 3, .int 3, .int 3, .int 4]) := fun h =>
        .lst (SqL.of h) (.cons (.int _) (.cons (.int _) (.cons (.int _) (.cons (.int _) (.cons (.int _) (.cons (.int _) (.cons (.int _) (.cons (.int _) (.cons (.int _) .nil)))))))))
      refine w_eqD_same (dp (keep hD hL2)) (dp upd_same) rfl ?_
      walk_at "go"
      refine ⟨0, 50, rfl, fun p hp => ?_⟩
      rw [Mth.prt_zero]
      walk_at "go"
      refine ⟨by show 2 ≤ sizeLine; decide, fun p2 hp2 => ?_⟩
      refine w_eqD_same (dpP (keep upd_same hp2)) (dpP upd_same) rfl ?_
      exact q _

def top (i : Nat) : Stmt := PySem.Challenge.pw_sumtold_k05_parts_reckoned.main.body.getD i (.Pass ⟨0, 0, 0, 0⟩)
structure Bl (mg : Str → Option Value) : Prop where
  b_abs : mg "abs" = none
  b_bool : mg "bool" = none
  b_int : mg "int" = none
  b_isinstance : mg "isinstance" = none
  b_len : mg "len" = none
  b_max : mg "max" = none
  b_min : mg "min" = none
  b_range : mg "range" = none
  b_tuple : mg "tuple" = none
section
variable {P : Program} {w : World} {K : PySem.W.Frag} {mg : Str → Option Value} {base : Heap}
abbrev s_is_whole_number : Stmt := top 1
theorem sc_is_whole_number : FnScope N_is_whole_number ["thing"] (defScope s_is_whole_number) := ⟨rfl, rfl, rfl, by decide +kernel, rfl, by decide +kernel, by decide +kernel⟩
theorem ok_is_whole_number (F : ∃ fd, FnP K "is_whole_number" s_is_whole_number (He.ga K "is_whole_number") fd) (gm : mg "is_whole_number" = some (.ref (He.ga K "is_whole_number"))) (B : Bl mg)  : Has P w K mg base "is_whole_number" 1 ["thing"] (spWhole K) := by
  obtain ⟨fd, F⟩ := F
  refine ⟨_, fd, gm, F.kp, FunD.bindsN (ps := ["thing"]) F fun _ _ _ _ _ _ us hl => match us, hl with | [_], _ => rfl, F.ok sc_is_whole_number (fun vs H Q E h => p_is_whole_number_len h) (fun cdv A outer s H vs Q E hr h => ⟨t_is_whole_number K, PSs.nox ?_, p_is_whole_number h⟩)⟩
  have hu := hu_of hr
  exact (pss_one (ps_ret (pe_and (pe_callB call_isi (by rfl) B.b_isinstance (by decide +kernel) (pa_cons (pv 0) (pa_cons (pe_bltn (v := .ty "int") (by rfl) B.b_int (by decide +kernel) rfl) pa_nil))) (pe_one (pe_not (pe_callB call_isi (by rfl) B.b_isinstance (by decide +kernel) (pa_cons (pv 0) (pa_cons (pe_bltn (v := .ty "bool") (by rfl) B.b_bool (by decide +kernel) rfl) pa_nil))))))))

abbrev s_divisor : Stmt := top 2
theorem sc_divisor : FnScope N_divisor ["one", "other"] (defScope s_divisor) := ⟨rfl, rfl, rfl, by decide +kernel, rfl, by decide +kernel, by decide +kernel⟩
theorem ok_divisor (F : ∃ fd, FnP K "divisor" s_divisor (He.ga K "divisor") fd) (gm : mg "divisor" = some (.ref (He.ga K "divisor"))) (B : Bl mg)  : Has P w K mg base "divisor" 1 ["one", "other"] spDivisor := by
  obtain ⟨fd, F⟩ := F
  refine ⟨_, fd, gm, F.kp, FunD.bindsN (ps := ["one", "other"]) F fun _ _ _ _ _ _ us hl => match us, hl with | [_, _], _ => rfl, F.ok sc_divisor (fun vs H Q E h => p_divisor_len h) (fun cdv A outer s H vs Q E hr h => ⟨t_divisor K, PSs.nox ?_, p_divisor h⟩)⟩
  have hu := hu_of hr
  exact (pss_cons (ps_while PassesOwn.never (pt_cmpR op_ne (pv 1) pe_int (nomark _)) (pss_one (ps_par (i := 0) (j := 1) rfl sc_divisor.nd rfl rfl (by decide) rfl rfl (pa_cons (pv 1) (pa_cons (pe_op op_mod (pv 0) (pv 1)) pa_nil)) (by rfl))))
    (pss_one (ps_ret (pv 0))))

abbrev s_pair : Stmt := top 3
theorem sc_pair : FnScope N_pair ["num", "den"] (defScope s_pair) := ⟨rfl, rfl, rfl, by decide +kernel, rfl, by decide +kernel, by decide +kernel⟩
theorem ok_pair (F : ∃ fd, FnP K "pair" s_pair (He.ga K "pair") fd) (gm : mg "pair" = some (.ref (He.ga K "pair"))) (B : Bl mg) (h_divisor : Has P w K mg base "divisor" 1 ["one", "other"] spDivisor) : Has P w K mg base "pair" 2 ["num", "den"] spPair := by
  obtain ⟨fd, F⟩ := F
  refine ⟨_, fd, gm, F.kp, FunD.bindsN (ps := ["num", "den"]) F fun _ _ _ _ _ _ us hl => match us, hl with | [_, _], _ => rfl, F.ok sc_pair (fun vs H Q E h => p_pair_len h) (fun cdv A outer s H vs Q E hr h => ⟨t_pair K, PSs.nox ?_, p_pair h⟩)⟩
  have hu := hu_of hr
  exact (pss_cons (ps_if (pt_cmpR op_lt (pv 1) pe_int (nomark _)) (pss_cons (ps_set (i := 0) sc_pair.nd rfl (Or.inl rfl) (pe_op op_sub pe_int (pv 0)))
      (pss_one (ps_set (i := 1) sc_pair.nd rfl (Or.inl rfl) (pe_op op_sub pe_int (pv 1))))) pss_nil)
    (pss_cons (ps_set (i := 2) sc_pair.nd rfl (Or.inl rfl) (pe_has h_divisor (hr.mono (by decide)) (by rfl) (pa_cons (pe_callB call_abs (by rfl) B.b_abs (by decide +kernel) (pa_cons (pv 0) pa_nil)) (pa_cons (pv 1) pa_nil))))
    (pss_one (ps_ret (pe_tup (pa_cons (pe_op op_fdivW (pv 0) (pv 2)) (pa_cons (pe_op op_fdivW (pv 1) (pv 2)) pa_nil)))))))

abbrev s_is_pair : Stmt := top 4
theorem sc_is_pair : FnScope N_is_pair ["thing"] (defScope s_is_pair) := ⟨rfl, rfl, rfl, by decide +kernel, rfl, by decide +kernel, by decide +kernel⟩
theorem ok_is_pair (F : ∃ fd, FnP K "is_pair" s_is_pair (He.ga K "is_pair") fd) (gm : mg "is_pair" = some (.ref (He.ga K "is_pair"))) (B : Bl mg) (h_divisor : Has P w K mg base "divisor" 1 ["one", "other"] spDivisor) (h_is_whole_number : Has P w K mg base "is_whole_number" 1 ["thing"] (spWhole K)) : Has P w K mg base "is_pair" 2 ["thing"] (spIsPair K) := by
  obtain ⟨fd, F⟩ := F
  refine ⟨_, fd, gm, F.kp, FunD.bindsN (ps := ["thing"]) F fun _ _ _ _ _ _ us hl => match us, hl with | [_], _ => rfl, F.ok sc_is_pair (fun vs H Q E h => p_is_pair_len h) (fun cdv A outer s H vs Q E hr h => ⟨t_is_pair K, PSs.nox ?_, p_is_pair h⟩)⟩
  have hu := hu_of hr
  exact (pss_cons (ps_if (PW.pt (pw_or (pt_not (pt_val (pe_callB call_isi (by rfl) B.b_isinstance (by decide +kernel) (pa_cons (pv 0) (pa_cons (pe_bltn (v := .ty "tuple") (by rfl) B.b_tuple (by decide +kernel) rfl) pa_nil))))) (pw_or1 (pt_cmpR op_ne (pe_callB call_len_seq (by rfl) B.b_len (by decide +kernel) (pa_cons (pv 0) pa_nil)) pe_int (nomark _))))) (pss_one (ps_ret pe_bl)) pss_nil)
    (pss_cons (ps_if (PW.pt (pw_or (pt_not (pt_val (pe_has h_is_whole_number (hr.mono (by decide)) (by rfl) (pa_cons (pe_ix ix_tup (pv 0) pe_int (fun _ _ => rfl)) pa_nil)))) (pw_or (pt_not (pt_val (pe_has h_is_whole_number (hr.mono (by decide)) (by rfl) (pa_cons (pe_ix ix_tup (pv 0) pe_int (fun _ _ => rfl)) pa_nil)))) (pw_or1 (pt_cmpR op_lt (pe_ix ix_tup (pv 0) pe_int (fun _ _ => rfl)) pe_int (nomark _)))))) (pss_one (ps_ret pe_bl)) pss_nil)
    (pss_one (ps_ret (pe_cmpR op_eq (pe_has h_divisor (hr.mono (by decide)) (by rfl) (pa_cons (pe_callB call_abs (by rfl) B.b_abs (by decide +kernel) (pa_cons (pe_ix ix_tup (pv 0) pe_int (fun _ _ => rfl)) pa_nil)) (pa_cons (pe_ix ix_tup (pv 0) pe_int (fun _ _ => rfl)) pa_nil))) pe_int (nomark _))))))

abbrev s_part : Stmt := top 5
theorem sc_part : FnScope N_part ["num", "e"] (defScope s_part) := ⟨rfl, rfl, rfl, by decide +kernel, rfl, by decide +kernel, by decide +kernel⟩
theorem ok_part (F : ∃ fd, FnP K "part" s_part (He.ga K "part") fd) (gm : mg "part" = some (.ref (He.ga K "part"))) (B : Bl mg)  : Has P w K mg base "part" 1 ["num", "e"] spPart := by
  obtain ⟨fd, F⟩ := F
  refine ⟨_, fd, gm, F.kp, FunD.bindsN (ps := ["num", "e"]) F fun _ _ _ _ _ _ us hl => match us, hl with | [_, _], _ => rfl, F.ok sc_part (fun vs H Q E h => p_part_len h) (fun cdv A outer s H vs Q E hr h => ⟨t_part K, PSs.nox ?_, p_part h⟩)⟩
  have hu := hu_of hr
  exact (pss_cons (ps_if (pt_cmpR op_eq (pv 0) pe_int (nomark _)) (pss_one (ps_ret (pe_tup (pa_cons pe_int (pa_cons pe_int pa_nil))))) pss_nil)
    (pss_cons (ps_set (i := 2) sc_part.nd rfl (Or.inl rfl) (pe_callB (call_min2 rfl) (by rfl) B.b_min (by decide +kernel) (pa_cons (pv 1) (pa_cons (pe_op op_sub (pe_bits (pe_op op_and (pv 0) (pe_op op_sub pe_int (pv 0)))) pe_int) pa_nil))))
    (pss_one (ps_ret (pe_tup (pa_cons (pe_op op_shr (pv 0) (pv 2)) (pa_cons (pe_op op_sub (pv 1) (pv 2)) pa_nil)))))))

abbrev s_is_part : Stmt := top 6
theorem sc_is_part : FnScope N_is_part ["thing"] (defScope s_is_part) := ⟨rfl, rfl, rfl, by decide +kernel, rfl, by decide +kernel, by decide +kernel⟩
theorem ok_is_part (F : ∃ fd, FnP K "is_part" s_is_part (He.ga K "is_part") fd) (gm : mg "is_part" = some (.ref (He.ga K "is_part"))) (B : Bl mg) (h_is_whole_number : Has P w K mg base "is_whole_number" 1 ["thing"] (spWhole K)) : Has P w K mg base "is_part" 2 ["thing"] (spIsPart K) := by
  obtain ⟨fd, F⟩ := F
  refine ⟨_, fd, gm, F.kp, FunD.bindsN (ps := ["thing"]) F fun _ _ _ _ _ _ us hl => match us, hl with | [_], _ => rfl, F.ok sc_is_part (fun vs H Q E h => p_is_part_len h) (fun cdv A outer s H vs Q E hr h => ⟨t_is_part K, PSs.nox ?_, p_is_part h⟩)⟩
  have hu := hu_of hr
  exact (pss_cons (ps_if (PW.pt (pw_or (pt_not (pt_val (pe_callB call_isi (by rfl) B.b_isinstance (by decide +kernel) (pa_cons (pv 0) (pa_cons (pe_bltn (v := .ty "tuple") (by rfl) B.b_tuple (by decide +kernel) rfl) pa_nil))))) (pw_or1 (pt_cmpR op_ne (pe_callB call_len_seq (by rfl) B.b_len (by decide +kernel) (pa_cons (pv 0) pa_nil)) pe_int (nomark _))))) (pss_one (ps_ret pe_bl)) pss_nil)
    (pss_cons (ps_if (PW.pt (pw_or (pt_not (pt_val (pe_has h_is_whole_number (hr.mono (by decide)) (by rfl) (pa_cons (pe_ix ix_tup (pv 0) pe_int (fun _ _ => rfl)) pa_nil)))) (pw_or (pt_not (pt_val (pe_has h_is_whole_number (hr.mono (by decide)) (by rfl) (pa_cons (pe_ix ix_tup (pv 0) pe_int (fun _ _ => rfl)) pa_nil)))) (pw_or1 (pt_cmpR op_lt (pe_ix ix_tup (pv 0) pe_int (fun _ _ => rfl)) pe_int (nomark _)))))) (pss_one (ps_ret pe_bl)) pss_nil)
    (pss_one (ps_ret (pe_or (pe_cmpR op_eq (pe_ix ix_tup (pv 0) pe_int (fun _ _ => rfl)) pe_int (nomark _)) (pe_one (pe_cmpR op_eq (pe_op op_mod (pe_ix ix_tup (pv 0) pe_int (fun _ _ => rfl)) pe_int) pe_int (nomark _))))))))

abbrev s_part_plus : Stmt := top 7
theorem sc_part_plus : FnScope N_part_plus ["one", "other"] (defScope s_part_plus) := ⟨rfl, rfl, rfl, by decide +kernel, rfl, by decide +kernel, by decide +kernel⟩
theorem ok_part_plus (F : ∃ fd, FnP K "part_plus" s_part_plus (He.ga K "part_plus") fd) (gm : mg "part_plus" = some (.ref (He.ga K "part_plus"))) (B : Bl mg) (h_part : Has P w K mg base "part" 1 ["num", "e"] spPart) : Has P w K mg base "part_plus" 2 ["one", "other"] spPartPlus := by
  obtain ⟨fd, F⟩ := F
  refine ⟨_, fd, gm, F.kp, FunD.bindsN (ps := ["one", "other"]) F fun _ _ _ _ _ _ us hl => match us, hl with | [_, _], _ => rfl, F.ok sc_part_plus (fun vs H Q E h => p_part_plus_len h) (fun cdv A outer s H vs Q E hr h => ⟨t_part_plus K, PSs.nox ?_, p_part_plus h⟩)⟩
  have hu := hu_of hr
  exact (pss_cons (ps_set (i := 2) sc_part_plus.nd rfl (Or.inl rfl) (pe_callB (call_max2 rfl) (by rfl) B.b_max (by decide +kernel) (pa_cons (pe_ix ix_tup (pv 0) pe_int (fun _ _ => rfl)) (pa_cons (pe_ix ix_tup (pv 1) pe_int (fun _ _ => rfl)) pa_nil))))
    (pss_one (ps_ret (pe_has h_part (hr.mono (by decide)) (by rfl) (pa_cons (pe_op op_add (pe_op op_shlW (pe_ix ix_tup (pv 0) pe_int (fun _ _ => rfl)) (pe_op op_sub (pv 2) (pe_ix ix_tup (pv 0) pe_int (fun _ _ => rfl)))) (pe_op op_shlW (pe_ix ix_tup (pv 1) pe_int (fun _ _ => rfl)) (pe_op op_sub (pv 2) (pe_ix ix_tup (pv 1) pe_int (fun _ _ => rfl))))) (pa_cons (pv 2) pa_nil))))))

abbrev s_part_less : Stmt := top 8
theorem sc_part_less : FnScope N_part_less ["one", "other"] (defScope s_part_less) := ⟨rfl, rfl, rfl, by decide +kernel, rfl, by decide +kernel, by decide +kernel⟩
theorem ok_part_less (F : ∃ fd, FnP K "part_less" s_part_less (He.ga K "part_less") fd) (gm : mg "part_less" = some (.ref (He.ga K "part_less"))) (B : Bl mg) (h_part_plus : Has P w K mg base "part_plus" 2 ["one", "other"] spPartPlus) : Has P w K mg base "part_less" 3 ["one", "other"] spPartLess := by
  obtain ⟨fd, F⟩ := F
  refine ⟨_, fd, gm, F.kp, FunD.bindsN (ps := ["one", "other"]) F fun _ _ _ _ _ _ us hl => match us, hl with | [_, _], _ => rfl, F.ok sc_part_less (fun vs H Q E h => p_part_less_len h) (fun cdv A outer s H vs Q E hr h => ⟨t_part_less K, PSs.nox ?_, p_part_less h⟩)⟩
  have hu := hu_of hr
  exact (pss_one (ps_ret (pe_has h_part_plus (hr.mono (by decide)) (by rfl) (pa_cons (pv 0) (pa_cons (pe_tup (pa_cons (pe_op op_sub pe_int (pe_ix ix_tup (pv 1) pe_int (fun _ _ => rfl))) (pa_cons (pe_ix ix_tup (pv 1) pe_int (fun _ _ => rfl)) pa_nil))) pa_nil)))))

abbrev s_part_over : Stmt := top 9
theorem sc_part_over : FnScope N_part_over ["one", "other"] (defScope s_part_over) := ⟨rfl, rfl, rfl, by decide +kernel, rfl, by decide +kernel, by decide +kernel⟩
theorem ok_part_over (F : ∃ fd, FnP K "part_over" s_part_over (He.ga K "part_over") fd) (gm : mg "part_over" = some (.ref (He.ga K "part_over"))) (B : Bl mg) (h_pair : Has P w K mg base "pair" 2 ["num", "den"] spPair) : Has P w K mg base "part_over" 3 ["one", "other"] spPartOver := by
  obtain ⟨fd, F⟩ := F
  refine ⟨_, fd, gm, F.kp, FunD.bindsN (ps := ["one", "other"]) F fun _ _ _ _ _ _ us hl => match us, hl with | [_, _], _ => rfl, F.ok sc_part_over (fun vs H Q E h => p_part_over_len h) (fun cdv A outer s H vs Q E hr h => ⟨t_part_over K, PSs.nox ?_, p_part_over h⟩)⟩
  have hu := hu_of hr
  exact (pss_one (ps_ret (pe_has h_pair (hr.mono (by decide)) (by rfl) (pa_cons (pe_op op_shlW (pe_ix ix_tup (pv 0) pe_int (fun _ _ => rfl)) (pe_ix ix_tup (pv 1) pe_int (fun _ _ => rfl))) (pa_cons (pe_op op_shlW (pe_ix ix_tup (pv 1) pe_int (fun _ _ => rfl)) (pe_ix ix_tup (pv 0) pe_int (fun _ _ => rfl))) pa_nil)))))

abbrev s_halvings : Stmt := top 10
theorem sc_halvings : FnScope N_halvings ["many"] (defScope s_halvings) := ⟨rfl, rfl, rfl, by decide +kernel, rfl, by decide +kernel, by decide +kernel⟩
theorem ok_halvings (F : ∃ fd, FnP K "halvings" s_halvings (He.ga K "halvings") fd) (gm : mg "halvings" = some (.ref (He.ga K "halvings"))) (B : Bl mg)  : Has P w K mg base "halvings" 1 ["many"] spHalvings := by
  obtain ⟨fd, F⟩ := F
  refine ⟨_, fd, gm, F.kp, FunD.bindsN (ps := ["many"]) F fun _ _ _ _ _ _ us hl => match us, hl with | [_], _ => rfl, F.ok sc_halvings (fun vs H Q E h => p_halvings_len h) (fun cdv A outer s H vs Q E hr h => ⟨t_halvings K, PSs.nox ?_, p_halvings h⟩)⟩
  have hu := hu_of hr
  exact (pss_one (ps_ret (pe_bits (pv 0))))

abbrev s_l_cell_at : Stmt := top 12
theorem sc_l_cell_at : FnScope N_l_cell_at ["_law_script", "_law_k"] (defScope s_l_cell_at) := ⟨rfl, rfl, rfl, by decide +kernel, rfl, by decide +kernel, by decide +kernel⟩
theorem ok_l_cell_at (F : ∃ fd, FnP K "_law_cell_at" s_l_cell_at (He.ga K "_law_cell_at") fd) (gm : mg "_law_cell_at" = some (.ref (He.ga K "_law_cell_at"))) (B : Bl mg)  : Has P w K mg base "_law_cell_at" 1 ["_law_script", "_law_k"] (spCellAt K) := by
  obtain ⟨fd, F⟩ := F
  refine ⟨_, fd, gm, F.kp, FunD.bindsN (ps := ["_law_script", "_law_k"]) F fun _ _ _ _ _ _ us hl => match us, hl with | [_, _], _ => rfl, F.ok sc_l_cell_at (fun vs H Q E h => p_l_cell_at_len h) (fun cdv A outer s H vs Q E hr h => ⟨t_l_cell_at K, PSs.nox ?_, p_l_cell_at h⟩)⟩
  have hu := hu_of hr
  exact (pss_cons (ps_if (pt_cmpR op_lt (pv 1) (pe_callB call_len_seq (by rfl) B.b_len (by decide +kernel) (pa_cons (pv 0) pa_nil)) (nomark _)) (pss_one (ps_ret (pe_ix ix_list (pv 0) (pv 1) (fun _ _ => rfl)))) pss_nil)
    (pss_one (ps_ret pe_int)))

abbrev s_l_begin : Stmt := top 13
theorem sc_l_begin : FnScope N_l_begin ["_law_cell"] (defScope s_l_begin) := ⟨rfl, rfl, rfl, by decide +kernel, rfl, by decide +kernel, by decide +kernel⟩
theorem ok_l_begin (F : ∃ fd, FnP K "_law_begin" s_l_begin (He.ga K "_law_begin") fd) (gm : mg "_law_begin" = some (.ref (He.ga K "_law_begin"))) (B : Bl mg)  : Has P w K mg base "_law_begin" 1 ["_law_cell"] spBegin := by
  obtain ⟨fd, F⟩ := F
  refine ⟨_, fd, gm, F.kp, FunD.bindsN (ps := ["_law_cell"]) F fun _ _ _ _ _ _ us hl => match us, hl with | [_], _ => rfl, F.ok sc_l_begin (fun vs H Q E h => p_l_begin_len h) (fun cdv A outer s H vs Q E hr h => ⟨t_l_begin K, PSs.nox ?_, p_l_begin h⟩)⟩
  have hu := hu_of hr
  exact (pss_one (ps_ret (pe_lst (pa_cons (pe_ix ix_list (pe_lst (pa_cons pe_int (pa_cons (pv 0) pa_nil))) (pe_callTy call_int1 (by rfl) B.b_int (by decide +kernel) (pa_cons (pe_cmpR op_ge (pv 0) (pe_op op_pow pe_int pe_int) (nomark _)) pa_nil)) (fun _ _ => rfl)) (pa_cons (pe_op op_mod (pv 0) pe_int) (pa_cons pe_int pa_nil))))))

abbrev s_l_draw : Stmt := top 14
theorem sc_l_draw : FnScope N_l_draw ["_law_source", "_law_most"] (defScope s_l_draw) := ⟨rfl, rfl, rfl, by decide +kernel, rfl, by decide +kernel, by decide +kernel⟩
theorem ok_l_draw (F : ∃ fd, FnP K "_law_draw" s_l_draw (He.ga K "_law_draw") fd) (gm : mg "_law_draw" = some (.ref (He.ga K "_law_draw"))) (B : Bl mg)  : Has P w K mg base "_law_draw" 1 ["_law_source", "_law_most"] spDraw := by
  obtain ⟨fd, F⟩ := F
  refine ⟨_, fd, gm, F.kp, FunD.bindsN (ps := ["_law_source", "_law_most"]) F fun _ _ _ _ _ _ us hl => match us, hl with | [_, _], _ => rfl, F.ok sc_l_draw (fun vs H Q E h => p_l_draw_len h) (fun cdv A outer s H vs Q E hr h => ⟨t_l_draw K, PSs.nox ?_, p_l_draw h⟩)⟩
  have hu := hu_of hr
  exact (pss_cons (ps_if (pt_cmpR op_gt (pe_ix ix_list (pv 0) pe_int (fun _ _ => rfl)) pe_int (nomark _)) (pss_cons (ps_set (i := 2) sc_l_draw.nd rfl (Or.inl rfl) (pe_op op_mod (pe_ix ix_list (pv 0) pe_int (fun _ _ => rfl)) (pv 1)))
      (pss_cons (ps_asg (pe_op op_fdivW (pe_ix ix_list (pv 0) pe_int (fun _ _ => rfl)) (pv 1)) (pg_sub (pv 0) pe_int set_list))
      (pss_one (ps_ret (pv 2))))) pss_nil)
    (pss_cons (ps_asg (pe_op op_add (pe_ix ix_list (pv 0) pe_int (fun _ _ => rfl)) pe_int) (pg_sub (pv 0) pe_int set_list))
    (pss_cons (ps_set (i := 3) sc_l_draw.nd rfl (Or.inl rfl) (pe_op op_mod (pe_op op_mul (pe_op op_add (pe_op op_add (pe_ix ix_list (pv 0) pe_int (fun _ _ => rfl)) (pe_op op_mul pe_int (pe_ix ix_list (pv 0) pe_int (fun _ _ => rfl)))) pe_int) pe_int) pe_int))
    (pss_cons (ps_set (i := 3) sc_l_draw.nd rfl (Or.inl rfl) (pe_op op_mod (pe_op op_mulX (pv 3) (pe_op op_add (pe_op op_fdivW (pv 3) pe_int) pe_int)) pe_int))
    (pss_one (ps_ret (pe_op op_mod (pe_op op_mod (pe_op op_mulX (pv 3) (pe_op op_add (pe_op op_fdivW (pv 3) pe_int) pe_int)) pe_int) (pv 1))))))))

abbrev s_l_far : Stmt := top 15
theorem sc_l_far : FnScope N_l_far ["_law_source"] (defScope s_l_far) := ⟨rfl, rfl, rfl, by decide +kernel, rfl, by decide +kernel, by decide +kernel⟩
theorem ok_l_far (F : ∃ fd, FnP K "_law_far" s_l_far (He.ga K "_law_far") fd) (gm : mg "_law_far" = some (.ref (He.ga K "_law_far"))) (B : Bl mg) (h_l_draw : Has P w K mg base "_law_draw" 1 ["_law_source", "_law_most"] spDraw) : Has P w K mg base "_law_far" 2 ["_law_source"] spFar := by
  obtain ⟨fd, F⟩ := F
  refine ⟨_, fd, gm, F.kp, FunD.bindsN (ps := ["_law_source"]) F fun _ _ _ _ _ _ us hl => match us, hl with | [_], _ => rfl, F.ok sc_l_far (fun vs H Q E h => p_l_far_len h) (fun cdv A outer s H vs Q E hr h => ⟨t_l_far K, PSs.nox ?_, p_l_far h⟩)⟩
  have hu := hu_of hr
  exact (pss_cons (ps_set (i := 1) sc_l_far.nd rfl (Or.inl rfl) (pe_has h_l_draw (hr.mono (by decide)) (by rfl) (pa_cons (pv 0) (pa_cons pe_int pa_nil))))
    (pss_cons (ps_set (i := 2) sc_l_far.nd rfl (Or.inl rfl) (pe_op op_sub (pe_has h_l_draw (hr.mono (by decide)) (by rfl) (pa_cons (pv 0) (pa_cons pe_int pa_nil))) pe_int))
    (pss_cons (ps_set (i := 3) sc_l_far.nd rfl (Or.inl rfl) pe_int)
    (pss_cons (ps_for PassesOwn.never rfl (pi_range1 (by rfl) B.b_range (pa_cons (pe_op op_add pe_int (pe_has h_l_draw (hr.mono (by decide)) (by rfl) (pa_cons (pv 0) (pa_cons pe_int pa_nil)))) pa_nil)) (pg_name (i := 4) sc_l_far.nd rfl (Or.inl rfl)) (pss_one (ps_set (i := 3) sc_l_far.nd rfl (Or.inl rfl) (pe_op op_add (pe_op op_mulX (pv 3) (pe_op op_pow pe_int pe_int)) (pe_has h_l_draw (hr.mono (by decide)) (by rfl) (pa_cons (pv 0) (pa_cons (pe_op op_pow pe_int pe_int) pa_nil)))))))
    (pss_cons (ps_set (i := 5) sc_l_far.nd rfl (Or.inl rfl) (pe_op op_sub (pe_op op_add (pe_op op_shlW pe_int (pe_has h_l_draw (hr.mono (by decide)) (by rfl) (pa_cons (pv 0) (pa_cons pe_int pa_nil)))) (pe_has h_l_draw (hr.mono (by decide)) (by rfl) (pa_cons (pv 0) (pa_cons pe_int pa_nil)))) pe_int))
    (pss_one (ps_ret (pe_ix ix_list (pe_lst (pa_cons (pv 2) (pa_cons (pv 2) (pa_cons (pv 3) (pa_cons (pe_op op_sub pe_int (pv 3)) (pa_cons (pv 5) (pa_cons (pe_op op_sub pe_int (pv 5)) pa_nil))))))) (pv 1) (fun _ _ => rfl)))))))))

abbrev s_l_part : Stmt := top 16
theorem sc_l_part : FnScope N_l_part ["_law_num", "_law_e"] (defScope s_l_part) := ⟨rfl, rfl, rfl, by decide +kernel, rfl, by decide +kernel, by decide +kernel⟩
theorem ok_l_part (F : ∃ fd, FnP K "_law_part" s_l_part (He.ga K "_law_part") fd) (gm : mg "_law_part" = some (.ref (He.ga K "_law_part"))) (B : Bl mg)  : Has P w K mg base "_law_part" 1 ["_law_num", "_law_e"] spPart := by
  obtain ⟨fd, F⟩ := F
  refine ⟨_, fd, gm, F.kp, FunD.bindsN (ps := ["_law_num", "_law_e"]) F fun _ _ _ _ _ _ us hl => match us, hl with | [_, _], _ => rfl, F.ok sc_l_part (fun vs H Q E h => p_l_part_len h) (fun cdv A outer s H vs Q E hr h => ⟨t_l_part K, PSs.nox ?_, p_l_part h⟩)⟩
  have hu := hu_of hr
  exact (pss_cons (ps_while PassesOwn.never (PW.pt (pw_and (pt_cmpR op_gt (pv 1) pe_int (nomark _)) (pw_and1 (pt_cmpR op_eq (pe_op op_mod (pv 0) pe_int) pe_int (nomark _))))) (pss_cons (ps_set (i := 0) sc_l_part.nd rfl (Or.inl rfl) (pe_op op_fdivW (pv 0) pe_int))
      (pss_one (ps_set (i := 1) sc_l_part.nd rfl (Or.inl rfl) (pe_op op_sub (pv 1) pe_int)))))
    (pss_one (ps_ret (pe_tup (pa_cons (pv 0) (pa_cons (pv 1) pa_nil))))))

abbrev s_l_whole : Stmt := top 17
theorem sc_l_whole : FnScope N_l_whole ["_law_found"] (defScope s_l_whole) := ⟨rfl, rfl, rfl, by decide +kernel, rfl, by decide +kernel, by decide +kernel⟩
theorem ok_l_whole (F : ∃ fd, FnP K "_law_whole" s_l_whole (He.ga K "_law_whole") fd) (gm : mg "_law_whole" = some (.ref (He.ga K "_law_whole"))) (B : Bl mg)  : Has P w K mg base "_law_whole" 1 ["_law_found"] spIsWhole := by
  obtain ⟨fd, F⟩ := F
  refine ⟨_, fd, gm, F.kp, FunD.bindsN (ps := ["_law_found"]) F fun _ _ _ _ _ _ us hl => match us, hl with | [_], _ => rfl, F.ok sc_l_whole (fun vs H Q E h => p_l_whole_len h) (fun cdv A outer s H vs Q E hr h => ⟨t_l_whole K, PSs.nox ?_, p_l_whole h⟩)⟩
  have hu := hu_of hr
  exact (pss_one (ps_ret (pe_and (pe_callB call_isi (by rfl) B.b_isinstance (by decide +kernel) (pa_cons (pv 0) (pa_cons (pe_bltn (v := .ty "tuple") (by rfl) B.b_tuple (by decide +kernel) rfl) pa_nil))) (pe_one (pe_cmpR (op_eqD hr.units) (pe_lc (own := [("_law_one", 1)]) (g := (gName 1)) (tt := (tB (tCB (rIsi K) (tCons (tVar 1) (tCons (tC (.ty "bool")) tNil))))) (te := (tVar 1)) (wi := (iTup K (tVar 0))) rfl sc_l_whole.nd (pi_tup (pv 0)) (blkOk_by (own := [("_law_one", 1)]) (N := N_l_whole) (sc := defScope s_l_whole) (by decide +kernel)) (fun _ _ _ _ _ => (pg_name (i := 1) sc_l_whole.nd rfl (Or.inl rfl))) (fun _ _ _ _ _ => (pts_one (pt_val (pe_callB call_isi (by rfl) B.b_isinstance (by decide +kernel) (pa_cons (pv 1) (pa_cons (pe_bltn (v := .ty "bool") (by rfl) B.b_bool (by decide +kernel) rfl) pa_nil)))))) (fun _ _ _ _ _ => (pv 1))) (pe_lst pa_nil) (nomark _))))))

abbrev s_l_right : Stmt := top 18
theorem sc_l_right : FnScope N_l_right ["_law_one", "_law_other"] (defScope s_l_right) := ⟨rfl, rfl, rfl, by decide +kernel, rfl, by decide +kernel, by decide +kernel⟩
theorem ok_l_right (F : ∃ fd, FnP K "_law_right" s_l_right (He.ga K "_law_right") fd) (gm : mg "_law_right" = some (.ref (He.ga K "_law_right"))) (B : Bl mg) (h_is_pair : Has P w K mg base "is_pair" 2 ["thing"] (spIsPair K)) (h_part_over : Has P w K mg base "part_over" 3 ["one", "other"] spPartOver) (h_is_part : Has P w K mg base "is_part" 2 ["thing"] (spIsPart K)) (h_l_whole : Has P w K mg base "_law_whole" 1 ["_law_found"] spIsWhole) (h_l_part : Has P w K mg base "_law_part" 1 ["_law_num", "_law_e"] spPart) (h_part_less : Has P w K mg base "part_less" 3 ["one", "other"] spPartLess) (h_part_plus : Has P w K mg base "part_plus" 2 ["one", "other"] spPartPlus) : Has P w K mg base "_law_right" 4 ["_law_one", "_law_other"] spRight := by
  obtain ⟨fd, F⟩ := F
  refine ⟨_, fd, gm, F.kp, FunD.bindsN (ps := ["_law_one", "_law_other"]) F fun _ _ _ _ _ _ us hl => match us, hl with | [_, _], _ => rfl, F.ok sc_l_right (fun vs H Q E h => p_l_right_len h) (fun cdv A outer s H vs Q E hr h => ⟨t_l_right K, PSs.nox ?_, p_l_right h⟩)⟩
  have hu := hu_of hr
  exact (pss_cons (ps_set (i := 2) sc_l_right.nd rfl (Or.inl rfl) (pe_op op_add (pe_ix ix_tup (pv 0) pe_int (fun _ _ => rfl)) (pe_ix ix_tup (pv 1) pe_int (fun _ _ => rfl))))
    (pss_cons (ps_set (i := 3) sc_l_right.nd rfl (Or.inl rfl) (pe_op op_mulX (pe_ix ix_tup (pv 0) pe_int (fun _ _ => rfl)) (pe_op op_shlW pe_int (pe_ix ix_tup (pv 1) pe_int (fun _ _ => rfl)))))
    (pss_cons (ps_set (i := 4) sc_l_right.nd rfl (Or.inl rfl) (pe_op op_mulX (pe_ix ix_tup (pv 1) pe_int (fun _ _ => rfl)) (pe_op op_shlW pe_int (pe_ix ix_tup (pv 0) pe_int (fun _ _ => rfl)))))
    (pss_cons (ps_for PassesOwn.never rfl (pi_range1 (by rfl) B.b_range (pa_cons pe_int pa_nil)) (pg_name (i := 5) sc_l_right.nd rfl (Or.inl rfl)) (pss_cons (ps_set (i := 6) sc_l_right.nd rfl (Or.inl rfl) (pe_lst (pa_cons (pe_has h_part_plus (hr.mono (by decide)) (by rfl) (pa_cons (pv 0) (pa_cons (pv 1) pa_nil))) (pa_cons (pe_has h_part_less (hr.mono (by decide)) (by rfl) (pa_cons (pv 0) (pa_cons (pv 1) pa_nil))) pa_nil))))
      (pss_cons (ps_if (pt_cmpR (op_neD hr.units) (pv 6) (pe_lst (pa_cons (pe_has h_l_part (hr.mono (by decide)) (by rfl) (pa_cons (pe_op op_add (pv 3) (pv 4)) (pa_cons (pv 2) pa_nil))) (pa_cons (pe_has h_l_part (hr.mono (by decide)) (by rfl) (pa_cons (pe_op op_sub (pv 3) (pv 4)) (pa_cons (pv 2) pa_nil))) pa_nil))) (nomark _)) (pss_one (ps_ret pe_bl)) pss_nil)
      (pss_one (ps_if (PW.pt (pw_or (pt_not (pt_val (pe_has h_l_whole (hr.mono (by decide)) (by rfl) (pa_cons (pe_ix ix_seq (pv 6) pe_int (fun _ _ => rfl)) pa_nil)))) (pw_or (pt_not (pt_val (pe_has h_l_whole (hr.mono (by decide)) (by rfl) (pa_cons (pe_ix ix_seq (pv 6) pe_int (fun _ _ => rfl)) pa_nil)))) (pw_or (pt_not (pt_val (pe_has h_is_part (hr.mono (by decide)) (by rfl) (pa_cons (pe_ix ix_seq (pv 6) pe_int (fun _ _ => rfl)) pa_nil)))) (pw_or1 (pt_not (pt_val (pe_has h_is_part (hr.mono (by decide)) (by rfl) (pa_cons (pe_ix ix_seq (pv 6) pe_int (fun _ _ => rfl)) pa_nil))))))))) (pss_one (ps_ret pe_bl)) pss_nil)))))
    (pss_cons (ps_if (pt_cmpR op_eq (pe_ix ix_tup (pv 1) pe_int (fun _ _ => rfl)) pe_int (nomark _)) (pss_one (ps_ret pe_bl)) pss_nil)
    (pss_cons (ps_set (i := 6) sc_l_right.nd rfl (Or.inl rfl) (pe_has h_part_over (hr.mono (by decide)) (by rfl) (pa_cons (pv 0) (pa_cons (pv 1) pa_nil))))
    (pss_one (ps_ret (pe_and (pe_cmpR op_isBl (pe_has h_is_pair (hr.mono (by decide)) (by rfl) (pa_cons (pv 6) pa_nil)) pe_bl (nomark _)) (pe_one (pe_cmpR op_eq (pe_op op_mulX (pe_ix ix_seq (pv 6) pe_int (fun _ _ => rfl)) (pv 4)) (pe_op op_mulX (pv 3) (pe_ix ix_seq (pv 6) pe_int (fun _ _ => rfl))) (nomark _))))))))))))

abbrev s_l_halvings : Stmt := top 19
theorem sc_l_halvings : FnScope N_l_halvings ["_law_many"] (defScope s_l_halvings) := ⟨rfl, rfl, rfl, by decide +kernel, rfl, by decide +kernel, by decide +kernel⟩
theorem ok_l_halvings (F : ∃ fd, FnP K "_law_halvings" s_l_halvings (He.ga K "_law_halvings") fd) (gm : mg "_law_halvings" = some (.ref (He.ga K "_law_halvings"))) (B : Bl mg)  : Has P w K mg base "_law_halvings" 1 ["_law_many"] spHalvings := by
  obtain ⟨fd, F⟩ := F
  refine ⟨_, fd, gm, F.kp, FunD.bindsN (ps := ["_law_many"]) F fun _ _ _ _ _ _ us hl => match us, hl with | [_], _ => rfl, F.ok sc_l_halvings (fun vs H Q E h => p_l_halvings_len h) (fun cdv A outer s H vs Q E hr h => ⟨t_l_halvings K, PSs.nox ?_, p_l_halvings h⟩)⟩
  have hu := hu_of hr
  exact (pss_cons (ps_set (i := 1) sc_l_halvings.nd rfl (Or.inl rfl) pe_int)
    (pss_cons (ps_set (i := 2) sc_l_halvings.nd rfl (Or.inl rfl) pe_int)
    (pss_cons (ps_while PassesOwn.never (pt_cmpR op_le (pv 2) (pv 0) (nomark _)) (pss_cons (ps_set (i := 2) sc_l_halvings.nd rfl (Or.inl rfl) (pe_op op_mul (pv 2) pe_int))
      (pss_one (ps_set (i := 1) sc_l_halvings.nd rfl (Or.inl rfl) (pe_op op_add (pv 1) pe_int)))))
    (pss_one (ps_ret (pv 1))))))

abbrev s_law : Stmt := top 20
theorem sc_law : FnScope N_law ["_law_script"] (defScope s_law) := ⟨rfl, rfl, rfl, by decide +kernel, rfl, by decide +kernel, by decide +kernel⟩
theorem ok_law {f : Addr} {fd : FuncData} (F : FnP K "law" s_law f fd) (B : Bl mg) (h_part : Has P w K mg base "part" 1 ["num", "e"] spPart) (h_halvings : Has P w K mg base "halvings" 1 ["many"] spHalvings) (h_l_cell_at : Has P w K mg base "_law_cell_at" 1 ["_law_script", "_law_k"] (spCellAt K)) (h_l_halvings : Has P w K mg base "_law_halvings" 1 ["_law_many"] spHalvings) (h_l_far : Has P w K mg base "_law_far" 2 ["_law_source"] spFar) (h_l_right : Has P w K mg base "_law_right" 4 ["_law_one", "_law_other"] spRight) (h_l_draw : Has P w K mg base "_law_draw" 1 ["_law_source", "_law_most"] spDraw) (h_l_whole : Has P w K mg base "_law_whole" 1 ["_law_found"] spIsWhole) (h_l_part : Has P w K mg base "_law_part" 1 ["_law_num", "_law_e"] spPart) (h_l_begin : Has P w K mg base "_law_begin" 1 ["_law_cell"] spBegin) : FnOk P w K mg base CX0 5 f fd ["_law_script"] (spLaw K) := by
  refine F.ok sc_law (fun vs H Q E h => p_law_len h) (fun cdv A outer s H vs Q E hr h => ⟨t_law K, PSs.nox ?_, p_law h⟩)
  have hu := hu_of hr
  exact (pss_cons (ps_for PassesOwn.never rfl (pi_list (pe_op op_cat (pe_lst (pa_cons (pe_has h_l_cell_at (hr.mono (by decide)) (by rfl) (pa_cons (pv 0) (pa_cons pe_int pa_nil))) pa_nil)) (pe_slice sl_list (pv 0) (po_some pe_int) (po_some pe_int)))) (pg_name (i := 1) sc_law.nd rfl (Or.inl rfl)) (pss_cons (ps_set (i := 2) sc_law.nd rfl (Or.inl rfl) (pe_has h_l_begin (hr.mono (by decide)) (by rfl) (pa_cons (pv 1) pa_nil)))
      (pss_cons (ps_set (i := 3) sc_law.nd rfl (Or.inl rfl) (pe_has h_l_far (hr.mono (by decide)) (by rfl) (pa_cons (pv 2) pa_nil)))
      (pss_cons (ps_set (i := 4) sc_law.nd rfl (Or.inl rfl) (pe_ix ix_list (pe_lst (pa_cons pe_int (pa_cons (pe_has h_l_draw (hr.mono (by decide)) (by rfl) (pa_cons (pv 2) (pa_cons pe_int pa_nil))) (pa_cons (pe_has h_l_draw (hr.mono (by decide)) (by rfl) (pa_cons (pv 2) (pa_cons pe_int pa_nil))) pa_nil)))) (pe_has h_l_draw (hr.mono (by decide)) (by rfl) (pa_cons (pv 2) (pa_cons pe_int pa_nil))) (fun _ _ => rfl)))
      (pss_cons (ps_set (i := 5) sc_law.nd rfl (Or.inl rfl) (pe_has h_part (hr.mono (by decide)) (by rfl) (pa_cons (pv 3) (pa_cons (pv 4) pa_nil))))
      (pss_cons (ps_if (PW.pt (pw_or (pt_cmpR (op_neD hr.units) (pv 5) (pe_has h_l_part (hr.mono (by decide)) (by rfl) (pa_cons (pv 3) (pa_cons (pv 4) pa_nil))) (nomark _)) (pw_or (pt_not (pt_val (pe_has h_l_whole (hr.mono (by decide)) (by rfl) (pa_cons (pv 5) pa_nil)))) (pw_or (pt_cmpR (op_neD hr.units) (pe_has h_part (hr.mono (by decide)) (by rfl) (pa_cons (pe_op op_mul (pv 3) pe_int) (pa_cons (pe_op op_add (pv 4) pe_int) pa_nil))) (pv 5) (nomark _)) (pw_or1 (pt_cmpR (op_neD hr.units) (pe_has h_part (hr.mono (by decide)) (by rfl) (pa_cons (pv 3) (pa_cons pe_int pa_nil))) (pe_tup (pa_cons (pv 3) (pa_cons pe_int pa_nil))) (nomark _))))))) (pss_one (ps_ret pe_bl)) pss_nil)
      (pss_cons (ps_set (i := 6) sc_law.nd rfl (Or.inl rfl) (pe_has h_part (hr.mono (by decide)) (by rfl) (pa_cons (pe_has h_l_far (hr.mono (by decide)) (by rfl) (pa_cons (pv 2) pa_nil)) (pa_cons (pe_has h_l_draw (hr.mono (by decide)) (by rfl) (pa_cons (pv 2) (pa_cons pe_int pa_nil))) pa_nil))))
      (pss_cons (ps_set (i := 7) sc_law.nd rfl (Or.inl rfl) (pe_lst (pa_cons (pv 6) (pa_cons (pv 6) (pa_cons (pv 5) (pa_cons (pe_has h_part (hr.mono (by decide)) (by rfl) (pa_cons (pe_op op_sub pe_int (pv 3)) (pa_cons (pv 4) pa_nil))) (pa_cons (pe_has h_part (hr.mono (by decide)) (by rfl) (pa_cons (pe_has h_l_far (hr.mono (by decide)) (by rfl) (pa_cons (pv 2) pa_nil)) (pa_cons (pe_ix ix_tup (pv 5) pe_int (fun _ _ => rfl)) pa_nil))) (pa_cons (pe_has h_part (hr.mono (by decide)) (by rfl) (pa_cons (pe_op op_add (pe_op op_mul (pv 3) pe_int) pe_int) (pa_cons (pe_op op_add (pv 4) pe_int) pa_nil))) pa_nil))))))))
      (pss_cons (ps_set (i := 8) sc_law.nd rfl (Or.inl rfl) (pe_ix ix_list (pv 7) (pe_has h_l_draw (hr.mono (by decide)) (by rfl) (pa_cons (pv 2) (pa_cons pe_int pa_nil))) (fun _ _ => rfl)))
      (pss_cons (ps_if (PW.pt (pw_or (pt_not (pt_val (pe_has h_l_right (hr.mono (by decide)) (by rfl) (pa_cons (pv 5) (pa_cons (pv 8) pa_nil))))) (pw_or1 (pt_not (pt_val (pe_has h_l_right (hr.mono (by decide)) (by rfl) (pa_cons (pv 8) (pa_cons (pv 5) pa_nil)))))))) (pss_one (ps_ret pe_bl)) pss_nil)
      (pss_cons (ps_set (i := 9) sc_law.nd rfl (Or.inl rfl) (pe_callB call_abs (by rfl) B.b_abs (by decide +kernel) (pa_cons (pe_has h_l_far (hr.mono (by decide)) (by rfl) (pa_cons (pv 2) pa_nil)) pa_nil)))
      (pss_one (ps_if (pt_cmpR op_ne (pe_has h_halvings (hr.mono (by decide)) (by rfl) (pa_cons (pv 9) pa_nil)) (pe_has h_l_halvings (hr.mono (by decide)) (by rfl) (pa_cons (pv 9) pa_nil)) (nomark _)) (pss_one (ps_ret pe_bl)) pss_nil)))))))))))))
    (pss_one (ps_ret (pe_and (pe_cmpR (op_eqD hr.units) (pe_lc (own := [("_law_k", 10)]) (g := (gName 10)) (tt := tYes) (te := (tCall spHalvings [] E0 (tCons (tVar 10) tNil))) (wi := (iRng1 (tCons (tC (.int 9)) tNil))) rfl sc_law.nd (pi_range1 (by rfl) B.b_range (pa_cons pe_int pa_nil)) (blkOk_by (own := [("_law_k", 10)]) (N := N_law) (sc := defScope s_law) (by decide +kernel)) (fun _ _ _ _ _ => (pg_name (i := 10) sc_law.nd rfl (Or.inl rfl))) (fun _ _ _ _ _ => pts_nil) (fun _ _ _ _ _ => (pe_has h_halvings (hr.mono (by decide)) (by rfl) (pa_cons (pv 10) pa_nil)))) (pe_lst (pa_cons pe_int (pa_cons pe_int (pa_cons pe_int (pa_cons pe_int (pa_cons pe_int (pa_cons pe_int (pa_cons pe_int (pa_cons pe_int (pa_cons pe_int pa_nil)))))))))) (nomark _)) (pe_one (pe_cmpR (op_eqD hr.units) (pe_has h_part (hr.mono (by decide)) (by rfl) (pa_cons pe_int (pa_cons pe_int pa_nil))) (pe_tup (pa_cons pe_int (pa_cons pe_int pa_nil))) (nomark _)))))))
end

def dd_is_whole_number : He.DefD := ⟨("is_whole_number", none), "is_whole_number", "is_whole_number", defArgs s_is_whole_number, defBody s_is_whole_number, defScope s_is_whole_number, [], []⟩
def dd_divisor : He.DefD := ⟨("divisor", none), "divisor", "divisor", defArgs s_divisor, defBody s_divisor, defScope s_divisor, [], []⟩
def dd_pair : He.DefD := ⟨("pair", none), "pair", "pair", defArgs s_pair, defBody s_pair, defScope s_pair, [], []⟩
def dd_is_pair : He.DefD := ⟨("is_pair", none), "is_pair", "is_pair", defArgs s_is_pair, defBody s_is_pair, defScope s_is_pair, [], []⟩
def dd_part : He.DefD := ⟨("part", none), "part", "part", defArgs s_part, defBody s_part, defScope s_part, [], []⟩
def dd_is_part : He.DefD := ⟨("is_part", none), "is_part", "is_part", defArgs s_is_part, defBody s_is_part, defScope s_is_part, [], []⟩
def dd_part_plus : He.DefD := ⟨("part_plus", none), "part_plus", "part_plus", defArgs s_part_plus, defBody s_part_plus, defScope s_part_plus, [], []⟩
def dd_part_less : He.DefD := ⟨("part_less", none), "part_less", "part_less", defArgs s_part_less, defBody s_part_less, defScope s_part_less, [], []⟩
def dd_part_over : He.DefD := ⟨("part_over", none), "part_over", "part_over", defArgs s_part_over, defBody s_part_over, defScope s_part_over, [], []⟩
def dd_halvings : He.DefD := ⟨("halvings", none), "halvings", "halvings", defArgs s_halvings, defBody s_halvings, defScope s_halvings, [], []⟩
def dd_l_cell_at : He.DefD := ⟨("_law_cell_at", none), "_law_cell_at", "_law_cell_at", defArgs s_l_cell_at, defBody s_l_cell_at, defScope s_l_cell_at, [], []⟩
def dd_l_begin : He.DefD := ⟨("_law_begin", none), "_law_begin", "_law_begin", defArgs s_l_begin, defBody s_l_begin, defScope s_l_begin, [], []⟩
def dd_l_draw : He.DefD := ⟨("_law_draw", none), "_law_draw", "_law_draw", defArgs s_l_draw, defBody s_l_draw, defScope s_l_draw, [], []⟩
def dd_l_far : He.DefD := ⟨("_law_far", none), "_law_far", "_law_far", defArgs s_l_far, defBody s_l_far, defScope s_l_far, [], []⟩
def dd_l_part : He.DefD := ⟨("_law_part", none), "_law_part", "_law_part", defArgs s_l_part, defBody s_l_part, defScope s_l_part, [], []⟩
def dd_l_whole : He.DefD := ⟨("_law_whole", none), "_law_whole", "_law_whole", defArgs s_l_whole, defBody s_l_whole, defScope s_l_whole, [], []⟩
def dd_l_right : He.DefD := ⟨("_law_right", none), "_law_right", "_law_right", defArgs s_l_right, defBody s_l_right, defScope s_l_right, [], []⟩
def dd_l_halvings : He.DefD := ⟨("_law_halvings", none), "_law_halvings", "_law_halvings", defArgs s_l_halvings, defBody s_l_halvings, defScope s_l_halvings, [], []⟩
def dd_law : He.DefD := ⟨("law", none), "law", "law", defArgs s_law, defBody s_law, defScope s_law, [], []⟩
def fn : List He.DefD := [dd_is_whole_number, dd_divisor, dd_pair, dd_is_pair, dd_part, dd_is_part, dd_part_plus, dd_part_less, dd_part_over, dd_halvings, dd_l_cell_at, dd_l_begin, dd_l_draw, dd_l_far, dd_l_part, dd_l_whole, dd_l_right, dd_l_halvings, dd_law]
def fa : List He.Fa := [.glo "is_whole_number", .glo "divisor", .glo "pair", .glo "is_pair", .glo "part", .glo "is_part", .glo "part_plus", .glo "part_less", .glo "part_over", .glo "halvings", .glo "_law_cell_at", .glo "_law_begin", .glo "_law_draw", .glo "_law_far", .glo "_law_part", .glo "_law_whole", .glo "_law_right", .glo "_law_halvings", .glo "law", .free "abs", .free "bool", .free "int", .free "isinstance", .free "len", .free "max", .free "min", .free "range", .free "tuple"]
def loose : List Str := (["is_whole_number", "divisor", "pair", "is_pair", "part", "is_part", "part_plus", "part_less", "part_over", "halvings", "_law_cell_at", "_law_begin", "_law_draw", "_law_far", "_law_part", "_law_whole", "_law_right", "_law_halvings"] : List Str)
abbrev R : PySem.W.OpenRow := PySem.W.OpenLaw.row PySem.Challenge.rw_sumtold_k05_parts_reckoned
abbrev hk : PySem.W.Hook := He.hookD 4 fa fn
def ob (s : PySem.W.SharedT) : He.AlD := He.obsDG 4 fa fn (HandSHeadRun.getT s)
theorem ob_eq (s : PySem.W.SharedT) : ob s = hk.obs s.abs := He.obsDG_eq (HandSHeadRun.getT_eq s)
theorem run (w : World) : HandSHeadRun.RunEq R (PySem.W.view R.prog [20]) hk ob 2000 loose w := by
  intro os
  kernel_rfl
theorem facts {P : Program} {w : World} {K : PySem.W.Frag} {h : Heap} {mg : Str → Option Value} {f : Addr} (X : K.In h) (G : h.Ns mainGlobals mg) (hfa : mg ("law" : Str) = some (.ref f)) (c : He.SaysD fa fn K) :
    ∃ fd : FuncData, (∀ (s : Shared) (v : Value), BindsTo s fd ⟨[v], []⟩ [("_law_script", v)]) ∧ ∀ base : Heap, K.In base → base.Ns mainGlobals mg → FnOk P w K mg base CX0 5 f fd ["_law_script"] ((spLaw K)) := by
  have F_is_whole_number := c.def_ 0 (d := dd_is_whole_number) rfl
  have g_is_whole_number := He.glo_ok X G (c.fact 0 (f := .glo "is_whole_number") rfl)
  have F_divisor := c.def_ 1 (d := dd_divisor) rfl
  have g_divisor := He.glo_ok X G (c.fact 1 (f := .glo "divisor") rfl)
  have F_pair := c.def_ 2 (d := dd_pair) rfl
  have g_pair := He.glo_ok X G (c.fact 2 (f := .glo "pair") rfl)
  have F_is_pair := c.def_ 3 (d := dd_is_pair) rfl
  have g_is_pair := He.glo_ok X G (c.fact 3 (f := .glo "is_pair") rfl)
  have F_part := c.def_ 4 (d := dd_part) rfl
  have g_part := He.glo_ok X G (c.fact 4 (f := .glo "part") rfl)
  have F_is_part := c.def_ 5 (d := dd_is_part) rfl
  have g_is_part := He.glo_ok X G (c.fact 5 (f := .glo "is_part") rfl)
  have F_part_plus := c.def_ 6 (d := dd_part_plus) rfl
  have g_part_plus := He.glo_ok X G (c.fact 6 (f := .glo "part_plus") rfl)
  have F_part_less := c.def_ 7 (d := dd_part_less) rfl
  have g_part_less := He.glo_ok X G (c.fact 7 (f := .glo "part_less") rfl)
  have F_part_over := c.def_ 8 (d := dd_part_over) rfl
  have g_part_over := He.glo_ok X G (c.fact 8 (f := .glo "part_over") rfl)
  have F_halvings := c.def_ 9 (d := dd_halvings) rfl
  have g_halvings := He.glo_ok X G (c.fact 9 (f := .glo "halvings") rfl)
  have F_l_cell_at := c.def_ 10 (d := dd_l_cell_at) rfl
  have g_l_cell_at := He.glo_ok X G (c.fact 10 (f := .glo "_law_cell_at") rfl)
  have F_l_begin := c.def_ 11 (d := dd_l_begin) rfl
  have g_l_begin := He.glo_ok X G (c.fact 11 (f := .glo "_law_begin") rfl)
  have F_l_draw := c.def_ 12 (d := dd_l_draw) rfl
  have g_l_draw := He.glo_ok X G (c.fact 12 (f := .glo "_law_draw") rfl)
  have F_l_far := c.def_ 13 (d := dd_l_far) rfl
  have g_l_far := He.glo_ok X G (c.fact 13 (f := .glo "_law_far") rfl)
  have F_l_part := c.def_ 14 (d := dd_l_part) rfl
  have g_l_part := He.glo_ok X G (c.fact 14 (f := .glo "_law_part") rfl)
  have F_l_whole := c.def_ 15 (d := dd_l_whole) rfl
  have g_l_whole := He.glo_ok X G (c.fact 15 (f := .glo "_law_whole") rfl)
  have F_l_right := c.def_ 16 (d := dd_l_right) rfl
  have g_l_right := He.glo_ok X G (c.fact 16 (f := .glo "_law_right") rfl)
  have F_l_halvings := c.def_ 17 (d := dd_l_halvings) rfl
  have g_l_halvings := He.glo_ok X G (c.fact 17 (f := .glo "_law_halvings") rfl)
  have F_law := c.def_ 18 (d := dd_law) rfl
  have g_law := He.glo_ok X G (c.fact 18 (f := .glo "law") rfl)
  have B : Bl mg := ⟨He.free_ok X G (c.fact 19 (f := .free "abs") rfl), He.free_ok X G (c.fact 20 (f := .free "bool") rfl), He.free_ok X G (c.fact 21 (f := .free "int") rfl), He.free_ok X G (c.fact 22 (f := .free "isinstance") rfl), He.free_ok X G (c.fact 23 (f := .free "len") rfl), He.free_ok X G (c.fact 24 (f := .free "max") rfl), He.free_ok X G (c.fact 25 (f := .free "min") rfl), He.free_ok X G (c.fact 26 (f := .free "range") rfl), He.free_ok X G (c.fact 27 (f := .free "tuple") rfl)⟩
  have e := hfa.symm.trans g_law
  cases e
  obtain ⟨fd, Fl⟩ := F_law
  refine ⟨fd, fun s v => (FunD.bindsA (ps := ["_law_script"]) Fl fun _ _ _ _ _ _ us hl => match us, hl with | [_], _ => rfl) s [v] rfl, fun base _ _ => ?_⟩
  have h_is_whole_number := ok_is_whole_number (P := P) (w := w) (base := base) F_is_whole_number g_is_whole_number B 
  have h_divisor := ok_divisor (P := P) (w := w) (base := base) F_divisor g_divisor B 
  have h_pair := ok_pair (P := P) (w := w) (base := base) F_pair g_pair B h_divisor
  have h_is_pair := ok_is_pair (P := P) (w := w) (base := base) F_is_pair g_is_pair B h_divisor h_is_whole_number
  have h_part := ok_part (P := P) (w := w) (base := base) F_part g_part B 
  have h_is_part := ok_is_part (P := P) (w := w) (base := base) F_is_part g_is_part B h_is_whole_number
  have h_part_plus := ok_part_plus (P := P) (w := w) (base := base) F_part_plus g_part_plus B h_part
  have h_part_less := ok_part_less (P := P) (w := w) (base := base) F_part_less g_part_less B h_part_plus
  have h_part_over := ok_part_over (P := P) (w := w) (base := base) F_part_over g_part_over B h_pair
  have h_halvings := ok_halvings (P := P) (w := w) (base := base) F_halvings g_halvings B 
  have h_l_cell_at := ok_l_cell_at (P := P) (w := w) (base := base) F_l_cell_at g_l_cell_at B 
  have h_l_begin := ok_l_begin (P := P) (w := w) (base := base) F_l_begin g_l_begin B 
  have h_l_draw := ok_l_draw (P := P) (w := w) (base := base) F_l_draw g_l_draw B 
  have h_l_far := ok_l_far (P := P) (w := w) (base := base) F_l_far g_l_far B h_l_draw
  have h_l_part := ok_l_part (P := P) (w := w) (base := base) F_l_part g_l_part B 
  have h_l_whole := ok_l_whole (P := P) (w := w) (base := base) F_l_whole g_l_whole B 
  have h_l_right := ok_l_right (P := P) (w := w) (base := base) F_l_right g_l_right B h_is_pair h_part_over h_is_part h_l_whole h_l_part h_part_less h_part_plus
  have h_l_halvings := ok_l_halvings (P := P) (w := w) (base := base) F_l_halvings g_l_halvings B 
  exact ok_law (P := P) (w := w) (base := base) Fl B h_part h_halvings h_l_cell_at h_l_halvings h_l_far h_l_right h_l_draw h_l_whole h_l_part h_l_begin

end Sum
open PySem PySem.W PySem.Calls PyProof.Rows
set_option maxRecDepth 100000 in
set_option maxHeartbeats 0 in
theorem PySem.Challenge.cw_sumtold_k05_parts_reckoned_holds : PySem.Challenge.rw_sumtold_k05_parts_reckoned.Holds := by
  w_on; o_law
  refine HandSHeadRun.head_any (r := OpenLaw.row PySem.Challenge.rw_sumtold_k05_parts_reckoned) (q := view (OpenLaw.row PySem.Challenge.rw_sumtold_k05_parts_reckoned).prog [20]) (H := Sum.hk) (ob := Sum.ob) (M := 2000) (loose := Sum.loose) (d := HandSHeadRun.topDef (OpenLaw.row PySem.Challenge.rw_sumtold_k05_parts_reckoned).prog 20) (kwd := []) Sum.ob_eq
    (by kernel_rfl) (fun s => by kernel_rfl) Sum.run (by kernel_rfl) (by kernel_rfl) (by kernel_rfl) (by rfl) (by first | assumption | decide +kernel) (by decide +kernel) ⟨rfl, rfl, rfl, rfl, rfl, by decide +kernel⟩ ?hw ?hc
  case hw => w_witness2
  case hc =>
    refine L2.walk_ofE (l := PySem.Challenge.rw_sumtold_k05_parts_reckoned) (n := 63) (k := 5) (x := "_law_script") (CX := L2.CX0) rfl (by decide) (by kernel_rfl) ⟨rfl, by decide, by decide⟩ ?F (fun _ _ _ _ z => z)
    intro w mg fa h Y G hmg0
    obtain ⟨K, KX, c⟩ := Y
    have hmg : mg ("law" : PySem.Str) = some (.ref fa) := by
      have e : (HandSHeadRun.topDef (OpenLaw.row PySem.Challenge.rw_sumtold_k05_parts_reckoned).prog 20).name = ("law" : PySem.Str) := by kernel_rfl
      rw [← e]
      exact hmg0
    obtain ⟨fd, hb, hF⟩ := Sum.facts (P := (PySem.Challenge.rw_sumtold_k05_parts_reckoned).prog) (w := w) KX G hmg c
    exact ⟨K, fd, Sum.spLaw K, KX, hb, fun H a ns hl _ hS => ⟨a, ns, rfl, hS, hl, fun _ => rfl⟩, hF⟩
#print axioms PySem.Challenge.cw_sumtold_k05_parts_reckoned_holds
