import PyProof.Rows.All
import Wide.All
import OpenK.AllK
import Wide.FinOn
import HandS.ForMost
import HandS.Flow
import HandS.IsInst
import HandS.WideBits
import HandS.Style
import HandS.TupAny
import HandS.TupMul
import HandS.Steps
import HandS.Evl
import HandS.Defaults
import HandS.HeadEnd
import HandS.HeadHook2
import HandS.Head2
import PySem.Challenge.RW_sumtold_k01_pairs_in_lowest_terms
set_option Elab.async false
set_option linter.all false
set_option maxRecDepth 100000
set_option maxHeartbeats 4000000
namespace Go
open PySem PySem.Spec PyProof.Rows L2
/-! ### readings by short names -/
abbrev rAddI : R2 := rI0 fun i j => .int (i + j)
abbrev rSubI : R2 := rI0 fun i j => .int (i - j)
abbrev rMulI : R2 := rI CMul fun i j => .int (i * j)
abbrev rMulX : R2 := rI CMulX fun i j => .int (i * j)
abbrev rDivI : R2 := rI CDivW fun i j => .int (i / j)
abbrev rModI : R2 := rI (fun _ j => 0 < j) fun i j => .int (i % j)
abbrev rPowI : R2 := rI CPow fun i j => .int (i ^ j.toNat)
abbrev rShlI : R2 := rI CShl fun i j => .int (i * 2 ^ j.toNat)
abbrev rShrI : R2 := rI (fun _ j => 0 ≤ j) fun i j => .int (i / 2 ^ j.toNat)
abbrev rAndI : R2 := rI0 fun i j => .int (Builtin.bitAnd i j)
abbrev rLtI : R2 := rI0 fun i j => .bl (decide (i < j))
abbrev rLeI : R2 := rI0 fun i j => .bl (decide (i ≤ j))
abbrev rGtI : R2 := rI0 fun i j => .bl (decide (j < i))
abbrev rGeI : R2 := rI0 fun i j => .bl (decide (j ≤ i))
abbrev rNegI : V → Hp → VK → Prop := rU fun i => .int (-i)
abbrev rAbs : List V → Hp → VK → Prop := fun xs H Q => ∃ i, xs = [.int i] ∧ Q (.int (if i < 0 then -i else i)) H
abbrev rMin2 : List V → Hp → VK → Prop := fun xs H Q => ∃ i j, xs = [.int i, .int j] ∧ Q (.int (if j < i then j else i)) H
abbrev rInt1 : List V → Hp → VK → Prop := fun xs H Q => (∃ i, xs = [.int i] ∧ Q (.int i) H) ∨ ∃ k, xs = [.bl k] ∧ Q (.int (if k then 1 else 0)) H
abbrev rTupOf (K : PySem.W.Frag) : List V → Hp → VK → Prop := fun xs H Q => ∃ p ys, xs = [.ref p] ∧ ((SqL K H p ys ∧ ∀ l, H l = none → Q (.ref l) (upd H l (.tup ys))) ∨ (SqT K H p ys ∧ Q (.ref p) H))
abbrev rAddStr : R2 := fun x y H Q => ∃ i j, x = .str i ∧ y = .str j ∧ i.length + j.length ≤ sizeLine ∧ Q (.str (i ++ j)) H
abbrev rLenStr : List V → Hp → VK → Prop := fun xs H Q => ∃ z, xs = [.str z] ∧ z.length ≤ sizeLine ∧ Q (.int z.length) H
/-! ### a def that keeps its promise, by its name -/
abbrev FnP (K : PySem.W.Frag) (x : Str) (st : Stmt) (f : Addr) (fd : FuncData) : Prop := FunD K x x (defArgs st) (defBody st) (defScope st) [] [] f fd
def Has (P : Program) (w : World) (K : PySem.W.Frag) (mg : Str → Option Value) (base : Heap) (x : Str) (k : Nat) (ps : List Str) (sp : Sp) : Prop :=
  ∃ (f : Addr) (fd : FuncData), mg x = some (.ref f) ∧ PySem.W.keepIn K (.ref f) = true ∧ Binds K fd ps [] ∧ FnOk P w K mg base CX0 k f fd ps sp
theorem pe_has {X : Cx} {x : Str} {p pos : Pos} {e : Expr} {es : List Expr} {t : TA} {k : Nat} {ps : List Str} {sp : Sp} (h : Has X.prog X.w X.K X.mg X.base x k ps sp) (hr : Room k X.A) (hg : Gl X x) (ha : PA X (e :: es) t)
    (hd : (x == ("__debug__" : Str)) = false := by decide) (he : starEach (e :: es) X.env = (false, eval e X.env) :: starEach es X.env := by rfl) (hpl : (backTo pos (starEach es X.env)).any (·.1) = false := by rfl) :
    PE X (.Call (.Name x p) (e :: es) [] pos) (tCall sp [] E0 t) := by
  obtain ⟨f, fd, gm, kp, b, F⟩ := h
  exact pe_call F hr hg gm kp b .nil pass0 ha hd he hpl
/-! ### stepping -/
section
variable {K : PySem.W.Frag} {σ : L2.St} {H H' : Hp} {Q : VK} {QB : Bool → Hp → Prop} {D : Ends} {t u : TS} {c c' : TT} {te ta tb tc : TE} {tr : TA} {i : Nat} {v x y : V} {r r' : R2} {a b : Addr} {o : HO} {xs ys : List V}
theorem w_seq (h : t { D with nx := u D } σ H) : tSeq t u D σ H := h
theorem w_next (h : D.nx σ H) : tNext D σ H := h
theorem w_asg (h : te σ H fun x H1 => D.nx (σ.set i (some x)) H1) : tAsg te (gName i) D σ H := h
theorem w_drop (h : te σ H fun _ H1 => D.nx σ H1) : tDrop te D σ H := h
theorem w_ret (h : te σ H D.rt) : tRet te D σ H := h
theorem w_if (h : c σ H fun b H1 => if b = true then t D σ H1 else u D σ H1) : tIfS c t u D σ H := h
theorem w_par {j : Nat} (h : tr σ H fun vs H1 => ∃ v w, vs = [v, w] ∧ D.nx ((σ.set i (some v)).set j (some w)) H1) : tPar i j tr D σ H := h
theorem w_sub {to ti : TE} {ts : TSet} (h : te σ H fun x H1 => to σ H1 fun o H2 => ti σ H2 fun i H3 => ts o i x H3 fun H4 => D.nx σ H4) : tAsg te (gSub to ti ts) D σ H := h
theorem w_setL {xs : List V} {k : Int} {j : Nat} {Qh : Hp → Prop} (h : H a = some (.lst xs)) (hj : ixN xs.length k = some j) (q : Qh (upd H a (.lst (xs.set j v)))) : rSetL (.ref a) (.int k) v H Qh := ⟨a, xs, k, j, rfl, rfl, h, hj, q⟩
theorem w_gName {QS : L2.St → Hp → Prop} (q : QS (σ.set i (some v)) H) : gName i v σ H QS := q
theorem w_gTup {n : Nat} {tg : TGs} {QS : L2.St → Hp → Prop} (h : SqT K H a xs) (hn : xs.length = n) (q : tg xs σ H QS) : gTup K n tg (.ref a) σ H QS := ⟨a, xs, rfl, h, hn, q⟩
theorem w_gCons {g1 : TG} {tg : TGs} {QS : L2.St → Hp → Prop} (q : g1 v σ H fun σ' H' => tg xs σ' H' QS) : gCons g1 tg (v :: xs) σ H QS := ⟨v, xs, rfl, q⟩
theorem w_gNil {QS : L2.St → Hp → Prop} (q : QS σ H) : gNil [] σ H QS := ⟨rfl, q⟩
theorem w_asgG {g : TG} (h : te σ H fun x H1 => g x σ H1 D.nx) : tAsg te g D σ H := h
theorem w_var (h : σ[i]? = some (some v)) (q : Q v H) : tVar i σ H Q := ⟨v, h, q⟩
theorem w_con (q : Q v H) : tC v σ H Q := q
theorem w_op (h : ta σ H fun x H1 => tb σ H1 fun y H2 => r x y H2 Q) : tOp r ta tb σ H Q := h
theorem w_un {r : V → Hp → VK → Prop} (h : ta σ H fun x H1 => r x H1 Q) : tUn r ta σ H Q := h
theorem w_I0 {g : Int → Int → V} {i j : Int} (q : Q (g i j) H) : rI0 g (.int i) (.int j) H Q := ⟨i, j, rfl, rfl, q⟩
theorem w_I {C : Int → Int → Prop} {g : Int → Int → V} {i j : Int} (hc : C i j) (q : Q (g i j) H) : rI C g (.int i) (.int j) H Q := ⟨i, j, rfl, rfl, hc, q⟩
theorem w_mulI {i j : Int} (hc : CMul i j) (q : Q (.int (i * j)) H) : rMulI (.int i) (.int j) H Q := w_I hc q
theorem w_modI {i j : Int} (hc : 0 < j) (q : Q (.int (i % j)) H) : rModI (.int i) (.int j) H Q := w_I (C := fun _ j => 0 < j) hc q
theorem w_divI {i j : Int} (hc : CDivW i j) (q : Q (.int (i / j)) H) : rDivI (.int i) (.int j) H Q := w_I hc q
theorem w_powI {i j : Int} (hc : CPow i j) (q : Q (.int (i ^ j.toNat)) H) : rPowI (.int i) (.int j) H Q := w_I hc q
theorem w_shrI {i j : Int} (hc : 0 ≤ j) (q : Q (.int (i / 2 ^ j.toNat)) H) : rShrI (.int i) (.int j) H Q := w_I (C := fun _ j => 0 ≤ j) hc q
theorem w_mulX {i j : Int} (hc : CMulX i j) (q : Q (.int (i * j)) H) : rMulX (.int i) (.int j) H Q := w_I hc q
theorem w_shlI {i j : Int} (hc : CShl i j) (q : Q (.int (i * 2 ^ j.toNat)) H) : rShlI (.int i) (.int j) H Q := w_I hc q
theorem w_U {g : Int → V} {i : Int} (q : Q (g i) H) : rU g (.int i) H Q := ⟨i, rfl, q⟩
theorem w_eq (hs : scal x y = true) (q : Q (.bl (decide (x = y))) H) : rEq x y H Q := ⟨hs, q⟩
theorem w_ne (hs : scal x y = true) (q : Q (.bl (!decide (x = y))) H) : rNe x y H Q := ⟨hs, q⟩
theorem w_isB {p q : Bool} (h : Q (.bl (decide (p = q))) H) : rIsB (.bl p) (.bl q) H Q := ⟨p, q, rfl, rfl, h⟩
theorem w_notB {p q : Bool} (h : Q (.bl (!decide (p = q))) H) : rNotB (.bl p) (.bl q) H Q := ⟨p, q, rfl, rfl, h⟩
theorem w_isN (h : Q (.bl (decide (x = .non))) H) : L2.rIsN x .non H Q := ⟨rfl, h⟩
theorem w_notN (h : Q (.bl (!decide (x = .non))) H) : L2.rNotN x .non H Q := ⟨rfl, h⟩
theorem w_test (h : te σ H fun x H' => ∃ k, x = .bl k ∧ QB k H') : tTest te σ H QB := h
theorem w_tB (h : te σ H fun x H' => ∃ k, x = .bl k ∧ QB k H') : tB te σ H QB := h
theorem w_k {k : Bool} {R : Bool → Prop} (q : R k) : ∃ k', V.bl k = .bl k' ∧ R k' := ⟨k, rfl, q⟩
theorem w_not (h : c σ H fun k H1 => QB (!k) H1) : tNot c σ H QB := h
theorem w_and (h : c σ H fun k H1 => if k = true then c' σ H1 QB else QB false H1) : tAnd c c' σ H QB := h
theorem w_or (h : c σ H fun k H1 => if k = true then QB true H1 else c' σ H1 QB) : tOr c c' σ H QB := h
theorem w_andV (h : ta σ H fun x H1 => ∃ k, x = .bl k ∧ if k = true then tb σ H1 Q else Q (.bl false) H1) : tAndV ta tb σ H Q := h
theorem w_orV (h : ta σ H fun x H1 => ∃ k, x = .bl k ∧ if k = true then Q (.bl true) H1 else tb σ H1 Q) : tOrV ta tb σ H Q := h
theorem w_notV (h : ta σ H fun x H1 => ∃ k, x = .bl k ∧ Q (.bl (!k)) H1) : tNotV ta σ H Q := h
theorem w_chain (h : ta σ H fun x H1 => tb σ H1 fun y H2 => r x y H2 fun z H3 => ∃ k, z = .bl k ∧ (if k = true then tc σ H3 fun w' H4 => r' y w' H4 Q else Q (.bl false) H3)) : tChain r r' ta tb tc σ H Q := h
theorem w_orT (h : ta σ H fun x H1 => ∃ k, TruV K x H1 k ∧ if k = true then Q x H1 else tb σ H1 Q) : tOrT K ta tb σ H Q := h
theorem w_andT (h : ta σ H fun x H1 => ∃ k, TruV K x H1 k ∧ if k = true then tb σ H1 Q else Q x H1) : tAndT K ta tb σ H Q := h
theorem w_truI {n : Int} {R : Bool → Prop} (q : R (n != 0)) : ∃ k, TruV K (.int n) H k ∧ R k := ⟨_, rfl, q⟩
theorem w_ifE (h : c σ H fun k H1 => if k = true then ta σ H1 Q else tb σ H1 Q) : tIf c ta tb σ H Q := h
theorem w_nil {QL : List V → Hp → Prop} (q : QL [] H) : tNil σ H QL := q
theorem w_cons {QL : List V → Hp → Prop} (h : te σ H fun x H1 => tr σ H1 fun xs H2 => QL (x :: xs) H2) : tCons te tr σ H QL := h
theorem w_tup (h : tr σ H fun xs H1 => xs.length ≤ sizeLine ∧ ∀ p, H1 p = none → Q (.ref p) (upd H1 p (.tup xs))) : tTup tr σ H Q := h
theorem w_lst (h : tr σ H fun xs H1 => xs.length ≤ sizeLine ∧ ∀ p, H1 p = none → Q (.ref p) (upd H1 p (.lst xs))) : tLst tr σ H Q := h
theorem w_call {sp : Sp} {E : XK} (h : tr σ H fun vs H1 => sp vs H1 Q E) : tCall sp [] E tr σ H Q := by
  show tr σ H fun vs H1 => sp (vs ++ []) H1 Q E
  simp only [List.append_nil]
  exact h
theorem w_cb {r : List V → Hp → VK → Prop} (h : tr σ H fun vs H1 => r vs H1 Q) : tCB r tr σ H Q := h
theorem w_ixL {k : Int} (h : SqL K H a xs) (ha : atI xs k = some v) (q : Q v H) : rIxL K (.ref a) (.int k) H Q := ⟨a, xs, k, v, rfl, rfl, h, ha, q⟩
theorem w_ixT {k : Int} (h : SqT K H a xs) (ha : atI xs k = some v) (q : Q v H) : rIxT K (.ref a) (.int k) H Q := ⟨a, xs, k, v, rfl, rfl, h, ha, q⟩
theorem w_abs {n : Int} (q : Q (.int (n.natAbs : Int)) H) : rAbs [.int n] H Q := ⟨n, rfl, by
  have e : (if n < 0 then -n else n) = (n.natAbs : Int) := by split <;> omega
  rw [e]; exact q⟩
theorem w_intB {k : Bool} (q : Q (.int (if k then 1 else 0)) H) : rInt1 [.bl k] H Q := .inr ⟨k, rfl, q⟩
theorem w_lenL (h : SqL K H a xs) (q : Q (.int xs.length) H) : Evl.rLenS K [.ref a] H Q := ⟨a, xs, rfl, .inl h, q⟩
theorem w_lenT (h : SqT K H a xs) (q : Q (.int xs.length) H) : Evl.rLenS K [.ref a] H Q := ⟨a, xs, rfl, .inr h, q⟩
theorem w_isi {cc : V} {tt uu : Value} {k : Bool} (hc : ClsV cc uu) (ht : TyX K H x tt) (hk : PySem.W.kitOne K tt uu = some k) (q : Q (.bl k) H) : rIsi K [x, cc] H Q := ⟨x, cc, tt, uu, k, rfl, hc, ht, hk, q⟩
theorem w_sl {rr : V → Option Int → Option Int → Hp → VK → Prop} {tl th : TO} (h : te σ H fun x H1 => tl σ H1 fun l H2 => th σ H2 fun u H3 => rr x l u H3 Q) : tSl rr te tl th σ H Q := h
theorem w_noPart {QO : Option Int → Hp → Prop} (q : QO none H) : tNoPart σ H QO := q
theorem w_part {QO : Option Int → Hp → Prop} (h : te σ H fun x H1 => ∃ i, x = .int i ∧ QO (some i) H1) : tPart te σ H QO := h
theorem w_partI {R : Int → Prop} {n : Int} (q : R n) : ∃ i, V.int n = .int i ∧ R i := ⟨n, rfl, q⟩
theorem w_slL {lo hi : Option Int} (h : SqL K H a xs) (q : ∀ p, H p = none → Q (.ref p) (upd H p (.lst (cutV xs lo hi)))) : rSlL K (.ref a) lo hi H Q := ⟨a, xs, rfl, h, q⟩
theorem w_cat (h : H a = some (.lst xs)) (h' : H b = some (.lst ys)) (hl : xs.length + ys.length ≤ sizeLine) (q : ∀ p, H p = none → Q (.ref p) (upd H p (.lst (xs ++ ys)))) : rCat (.ref a) (.ref b) H Q := ⟨a, b, xs, ys, rfl, rfl, h, h', hl, q⟩
theorem w_eqD {d e : PyData} (h1 : Dp K H x d) (h2 : Dp K H y e) (s1 : SeqAt.shaped d = true) (s2 : SeqAt.shaped e = true) (q : Q (.bl (PyData.eqv d e)) H) : rEqD K x y H Q := ⟨d, e, h1, h2, s1, s2, q⟩
theorem w_neD {d e : PyData} (h1 : Dp K H x d) (h2 : Dp K H y e) (s1 : SeqAt.shaped d = true) (s2 : SeqAt.shaped e = true) (q : Q (.bl (!PyData.eqv d e)) H) : rNeD K x y H Q := ⟨d, e, h1, h2, s1, s2, q⟩
theorem w_eqD_same {d : PyData} (h1 : Dp K H x d) (h2 : Dp K H y d) (s1 : SeqAt.shaped d = true) (q : Q (.bl true) H) : rEqD K x y H Q := ⟨d, d, h1, h2, s1, s1, by rw [SeqAt.eqv_refl d (SeqAt.canLay_of_shaped s1)]; exact q⟩
theorem w_neD_same {d : PyData} (h1 : Dp K H x d) (h2 : Dp K H y d) (s1 : SeqAt.shaped d = true) (q : Q (.bl false) H) : rNeD K x y H Q := ⟨d, d, h1, h2, s1, s1, by rw [SeqAt.eqv_refl d (SeqAt.canLay_of_shaped s1)]; exact q⟩
theorem dpP {m n : Int} (h : H a = some (.tup [.int m, .int n])) : Dp K H (.ref a) (.tuple [.int m, .int n]) := .tup (SqT.of h) (.cons (.int _) (.cons (.int _) .nil))
theorem dpN (h : H a = some (.lst [])) : Dp K H (.ref a) (.list []) := .lst (SqL.of h) .nil
theorem eqv_pair {m n m' n' : Int} : PyData.eqv (.tuple [.int m, .int n]) (.tuple [.int m', .int n']) = (decide (m = m') && decide (n = n')) := by
  simp [PyData.eqv, PyData.eqvAll, Bool.beq_eq_decide_eq]
theorem w_bits {n : Int} (h : te σ H fun x H1 => ∃ i, x = .int i ∧ Q (.int (Builtin.Int.intBits i : Nat)) H1) : tBits te σ H Q := h
/-! ### heaps -/
theorem keep {p : Addr} {u : HO} (h : H a = some o) (hp : H p = none) : upd H p u a = some o := by
  rw [upd_ne (ne_of_none h hp)]; exact h
theorem get (e : Same H H') (h : H a = some o) : H' a = some o := e a o h
theorem same_new {p : Addr} {u : HO} (hp : H p = none) : Same H (upd H p u) := fun _ _ h => keep h hp
theorem same_in {H0 : Hp} {p : Addr} {u : HO} (s : Same H0 H) (hp : H p = none) : Same H0 (upd H p u) := s.trans (same_new hp)
theorem free_of {p : Addr} {u : HO} {q : Addr} (h : upd H p u q = none) : H q = none := by
  unfold upd at h
  split at h
  · cases h
  · exact h
theorem ne_new {p : Addr} {u : HO} {q : Addr} (h : upd H p u q = none) : q ≠ p := fun e => by
  rw [e, upd_same] at h; cases h
theorem sqL (h : H a = some (.lst xs)) : SqL K H a xs := SqL.of h
theorem sqT (h : H a = some (.tup xs)) : SqT K H a xs := SqT.of h
theorem tyT (h : H a = some (.tup xs)) : TyX K H (.ref a) (.type "tuple") := .base (.tup h)
end
/-! ### isinstance -/
section
variable {K : PySem.W.Frag} {H : Hp} {Q : VK}
theorem i_int_int {n : Int} (q : Q (.bl true) H) : rIsi K [.int n, .ty "int"] H Q := w_isi (.ty _) (.base (.int n)) (kit_ty (a := "int") (b := "int") (r := true) (by decide +kernel)) q
theorem i_int_bool {n : Int} (q : Q (.bl false) H) : rIsi K [.int n, .ty "bool"] H Q := w_isi (.ty _) (.base (.int n)) (kit_ty (a := "int") (b := "bool") (r := false) (by decide +kernel)) q
theorem i_int_str {n : Int} (q : Q (.bl false) H) : rIsi K [.int n, .ty "str"] H Q := w_isi (.ty _) (.base (.int n)) (kit_ty (a := "int") (b := "str") (r := false) (by decide +kernel)) q
theorem i_int_list {n : Int} (q : Q (.bl false) H) : rIsi K [.int n, .ty "list"] H Q := w_isi (.ty _) (.base (.int n)) (kit_ty (a := "int") (b := "list") (r := false) (by decide +kernel)) q
theorem i_int_tuple {n : Int} (q : Q (.bl false) H) : rIsi K [.int n, .ty "tuple"] H Q := w_isi (.ty _) (.base (.int n)) (kit_ty (a := "int") (b := "tuple") (r := false) (by decide +kernel)) q
theorem i_bl_int {b : Bool} (q : Q (.bl true) H) : rIsi K [.bl b, .ty "int"] H Q := w_isi (.ty _) (.base (.bl b)) (kit_ty (a := "bool") (b := "int") (r := true) (by decide +kernel)) q
theorem i_bl_bool {b : Bool} (q : Q (.bl true) H) : rIsi K [.bl b, .ty "bool"] H Q := w_isi (.ty _) (.base (.bl b)) (kit_ty (a := "bool") (b := "bool") (r := true) (by decide +kernel)) q
theorem i_bl_str {b : Bool} (q : Q (.bl false) H) : rIsi K [.bl b, .ty "str"] H Q := w_isi (.ty _) (.base (.bl b)) (kit_ty (a := "bool") (b := "str") (r := false) (by decide +kernel)) q
theorem i_bl_list {b : Bool} (q : Q (.bl false) H) : rIsi K [.bl b, .ty "list"] H Q := w_isi (.ty _) (.base (.bl b)) (kit_ty (a := "bool") (b := "list") (r := false) (by decide +kernel)) q
theorem i_bl_tuple {b : Bool} (q : Q (.bl false) H) : rIsi K [.bl b, .ty "tuple"] H Q := w_isi (.ty _) (.base (.bl b)) (kit_ty (a := "bool") (b := "tuple") (r := false) (by decide +kernel)) q
theorem i_str_int {z : Str} (q : Q (.bl false) H) : rIsi K [.str z, .ty "int"] H Q := w_isi (.ty _) (.base (.str z)) (kit_ty (a := "str") (b := "int") (r := false) (by decide +kernel)) q
theorem i_str_bool {z : Str} (q : Q (.bl false) H) : rIsi K [.str z, .ty "bool"] H Q := w_isi (.ty _) (.base (.str z)) (kit_ty (a := "str") (b := "bool") (r := false) (by decide +kernel)) q
theorem i_str_str {z : Str} (q : Q (.bl true) H) : rIsi K [.str z, .ty "str"] H Q := w_isi (.ty _) (.base (.str z)) (kit_ty (a := "str") (b := "str") (r := true) (by decide +kernel)) q
theorem i_str_list {z : Str} (q : Q (.bl false) H) : rIsi K [.str z, .ty "list"] H Q := w_isi (.ty _) (.base (.str z)) (kit_ty (a := "str") (b := "list") (r := false) (by decide +kernel)) q
theorem i_str_tuple {z : Str} (q : Q (.bl false) H) : rIsi K [.str z, .ty "tuple"] H Q := w_isi (.ty _) (.base (.str z)) (kit_ty (a := "str") (b := "tuple") (r := false) (by decide +kernel)) q
theorem i_non_int (q : Q (.bl false) H) : rIsi K [.non, .ty "int"] H Q := w_isi (.ty _) (.base .non) (kit_ty (a := "NoneType") (b := "int") (r := false) (by decide +kernel)) q
theorem i_non_bool (q : Q (.bl false) H) : rIsi K [.non, .ty "bool"] H Q := w_isi (.ty _) (.base .non) (kit_ty (a := "NoneType") (b := "bool") (r := false) (by decide +kernel)) q
theorem i_non_str (q : Q (.bl false) H) : rIsi K [.non, .ty "str"] H Q := w_isi (.ty _) (.base .non) (kit_ty (a := "NoneType") (b := "str") (r := false) (by decide +kernel)) q
theorem i_non_list (q : Q (.bl false) H) : rIsi K [.non, .ty "list"] H Q := w_isi (.ty _) (.base .non) (kit_ty (a := "NoneType") (b := "list") (r := false) (by decide +kernel)) q
theorem i_non_tuple (q : Q (.bl false) H) : rIsi K [.non, .ty "tuple"] H Q := w_isi (.ty _) (.base .non) (kit_ty (a := "NoneType") (b := "tuple") (r := false) (by decide +kernel)) q
theorem i_lst_int {a : Addr} {xs : List V} (h : H a = some (.lst xs)) (q : Q (.bl false) H) : rIsi K [.ref a, .ty "int"] H Q := w_isi (.ty _) (.base (.lst h)) (kit_ty (a := "list") (b := "int") (r := false) (by decide +kernel)) q
theorem i_lst_bool {a : Addr} {xs : List V} (h : H a = some (.lst xs)) (q : Q (.bl false) H) : rIsi K [.ref a, .ty "bool"] H Q := w_isi (.ty _) (.base (.lst h)) (kit_ty (a := "list") (b := "bool") (r := false) (by decide +kernel)) q
theorem i_lst_str {a : Addr} {xs : List V} (h : H a = some (.lst xs)) (q : Q (.bl false) H) : rIsi K [.ref a, .ty "str"] H Q := w_isi (.ty _) (.base (.lst h)) (kit_ty (a := "list") (b := "str") (r := false) (by decide +kernel)) q
theorem i_lst_list {a : Addr} {xs : List V} (h : H a = some (.lst xs)) (q : Q (.bl true) H) : rIsi K [.ref a, .ty "list"] H Q := w_isi (.ty _) (.base (.lst h)) (kit_ty (a := "list") (b := "list") (r := true) (by decide +kernel)) q
theorem i_lst_tuple {a : Addr} {xs : List V} (h : H a = some (.lst xs)) (q : Q (.bl false) H) : rIsi K [.ref a, .ty "tuple"] H Q := w_isi (.ty _) (.base (.lst h)) (kit_ty (a := "list") (b := "tuple") (r := false) (by decide +kernel)) q
theorem i_tup_int {a : Addr} {xs : List V} (h : H a = some (.tup xs)) (q : Q (.bl false) H) : rIsi K [.ref a, .ty "int"] H Q := w_isi (.ty _) (.base (.tup h)) (kit_ty (a := "tuple") (b := "int") (r := false) (by decide +kernel)) q
theorem i_tup_bool {a : Addr} {xs : List V} (h : H a = some (.tup xs)) (q : Q (.bl false) H) : rIsi K [.ref a, .ty "bool"] H Q := w_isi (.ty _) (.base (.tup h)) (kit_ty (a := "tuple") (b := "bool") (r := false) (by decide +kernel)) q
theorem i_tup_str {a : Addr} {xs : List V} (h : H a = some (.tup xs)) (q : Q (.bl false) H) : rIsi K [.ref a, .ty "str"] H Q := w_isi (.ty _) (.base (.tup h)) (kit_ty (a := "tuple") (b := "str") (r := false) (by decide +kernel)) q
theorem i_tup_list {a : Addr} {xs : List V} (h : H a = some (.tup xs)) (q : Q (.bl false) H) : rIsi K [.ref a, .ty "list"] H Q := w_isi (.ty _) (.base (.tup h)) (kit_ty (a := "tuple") (b := "list") (r := false) (by decide +kernel)) q
theorem i_tup_tuple {a : Addr} {xs : List V} (h : H a = some (.tup xs)) (q : Q (.bl true) H) : rIsi K [.ref a, .ty "tuple"] H Q := w_isi (.ty _) (.base (.tup h)) (kit_ty (a := "tuple") (b := "tuple") (r := true) (by decide +kernel)) q
theorem i_dK_int {a : Addr} {kvs : List (Key × V)} (h : H a = some (.dK kvs)) (q : Q (.bl false) H) : rIsi K [.ref a, .ty "int"] H Q := w_isi (.ty _) (.base (.dK h)) (kit_ty (a := "dict") (b := "int") (r := false) (by decide +kernel)) q
theorem i_dK_bool {a : Addr} {kvs : List (Key × V)} (h : H a = some (.dK kvs)) (q : Q (.bl false) H) : rIsi K [.ref a, .ty "bool"] H Q := w_isi (.ty _) (.base (.dK h)) (kit_ty (a := "dict") (b := "bool") (r := false) (by decide +kernel)) q
theorem i_dK_str {a : Addr} {kvs : List (Key × V)} (h : H a = some (.dK kvs)) (q : Q (.bl false) H) : rIsi K [.ref a, .ty "str"] H Q := w_isi (.ty _) (.base (.dK h)) (kit_ty (a := "dict") (b := "str") (r := false) (by decide +kernel)) q
theorem i_dK_list {a : Addr} {kvs : List (Key × V)} (h : H a = some (.dK kvs)) (q : Q (.bl false) H) : rIsi K [.ref a, .ty "list"] H Q := w_isi (.ty _) (.base (.dK h)) (kit_ty (a := "dict") (b := "list") (r := false) (by decide +kernel)) q
theorem i_dK_tuple {a : Addr} {kvs : List (Key × V)} (h : H a = some (.dK kvs)) (q : Q (.bl false) H) : rIsi K [.ref a, .ty "tuple"] H Q := w_isi (.ty _) (.base (.dK h)) (kit_ty (a := "dict") (b := "tuple") (r := false) (by decide +kernel)) q
end
/-! ### loops -/
/-- a while by a family of states -/
def Wt {α : Type} (S : α → L2.St) (Pv : α → Hp → Prop) (μ : α → Nat) (m : Nat) (tb : TS) (D : Ends) (σ : L2.St) (H : Hp) : Prop :=
  ∃ N : L2.St → Hp → Prop, (∀ σ' H', N σ' H' → ∃ m', m' < m ∧ ∃ a', σ' = S a' ∧ Pv a' H' ∧ m' = μ a') ∧ tb { D with nx := N, ct := N, bk := D.nx } σ H
theorem w_while {α : Type} {c : TT} {tb : TS} {D : Ends} {σ : L2.St} {H : Hp} (S : α → L2.St) (Pv : α → Hp → Prop) (μ : α → Nat) (a0 : α) (e : σ = S a0) (h0 : Pv a0 H)
    (hs : ∀ a H, Pv a H → c (S a) H fun b H1 => if b = true then Wt S Pv μ (μ a) tb D (S a) H1 else D.nx (S a) H1) : tWhile c tb D σ H := by
  refine ⟨fun m σ H => ∃ a, σ = S a ∧ Pv a H ∧ m = μ a, ⟨_, a0, e, h0, rfl⟩, ?_⟩
  rintro m σ H ⟨a, rfl, p, rfl⟩
  exact hs a H p
theorem w_turn {α : Type} {tb : TS} {D : Ends} {σ : L2.St} {H : Hp} {S : α → L2.St} {Pv : α → Hp → Prop} {μ : α → Nat} {m : Nat}
    (h : tb { D with nx := fun σ' H' => ∃ a', σ' = S a' ∧ Pv a' H' ∧ μ a' < m, ct := fun σ' H' => ∃ a', σ' = S a' ∧ Pv a' H' ∧ μ a' < m, bk := D.nx } σ H) : Wt S Pv μ m tb D σ H :=
  ⟨_, fun _ _ ⟨a', e, p, l⟩ => ⟨_, l, a', e, p, rfl⟩, h⟩
section
variable {K : PySem.W.Frag} {σ : L2.St} {H : Hp} {D : Ends} {g : TG} {tb : TS} {tl : TE} {ta : TA}
theorem w_forI {wi : TI} (h : wi σ H fun J H1 => ∃ W : Nat → Nat → L2.St → Hp → Prop, (∃ m, W 0 m σ H1) ∧ ∀ i m σ H, W i m σ H →
    (J.stop i H ∧ D.nx σ H) ∨ (J.go i H ∧ ∃ N : L2.St → Hp → Prop, (∀ σ' H', N σ' H' → ∃ m', m' < m ∧ W (i + 1) m' σ' H') ∧ ∀ x H', J.yld i H x H' → g x σ H' fun σ2 H2 => tb { D with nx := N, ct := N, bk := D.nx } σ2 H2)) : tFor wi g tb D σ H := h
theorem w_iL {R : It → Hp → Prop} (h : tl σ H fun x H1 => ∃ a, x = .ref a ∧ (∃ xs, SqL K H1 a xs) ∧ R (Itl K a) H1) : iList K tl σ H R := h
theorem w_iT {R : It → Hp → Prop} (h : tl σ H fun x H1 => ∃ a, x = .ref a ∧ (∃ xs, SqT K H1 a xs) ∧ R (Itt K a) H1) : iTup K tl σ H R := h
theorem w_iR1 {R : It → Hp → Prop} (h : ta σ H fun vs H1 => ∃ j : Int, vs = [.int j] ∧ -(2 ^ 62) ≤ j ∧ j < 2 ^ 62 ∧ R (Itr 0 j.toNat) H1) : iRng1 ta σ H R := h
theorem w_iR2 {R : It → Hp → Prop} (h : ta σ H fun vs H1 => ∃ i j : Int, vs = [.int i, .int j] ∧ (-(2 ^ 62) ≤ i ∧ i < 2 ^ 62 ∧ -(2 ^ 62) ≤ j ∧ j < 2 ^ 62) ∧ R (Itr i (j - i).toNat) H1) : iRng2 ta σ H R := h
theorem w_lc {wi : TI} {tt : TT} {te : TE} {vs : List Nat} {Q : VK} (h : wi σ H fun J H1 => ∀ D, H1 D = none → ∃ W : Nat → Nat → Hp → Prop, (∃ m, W 0 m (upd H1 D (.lst []))) ∧ ∀ i m H, W i m H →
  (J.stop i H ∧ Q (.ref D) H) ∨ (J.go i H ∧ ∃ Nx : Hp → Prop, (∀ H', Nx H' → ∃ m', m' < m ∧ W (i + 1) m' H') ∧ ∀ x H', J.yld i H x H' → g x (wipe σ vs) H' fun σ2 H2 => wipe σ2 vs = wipe σ vs ∧ tt σ2 H2 fun b H3 =>
    if b = true then te σ2 H3 fun y H4 => ∃ acc, H4 D = some (.lst acc) ∧ acc.length < sizeLine ∧ Nx (upd H4 D (.lst (acc ++ [y]))) else Nx H3)) : tLc wi g tt te vs σ H Q := h
end
/-! ### tests that are known -/
theorem if_t {c : Bool} {A B : Prop} (hc : c = true) (h : A) : if c = true then A else B := by rw [if_pos hc]; exact h
theorem if_f {c : Bool} {A B : Prop} (hc : c = false) (h : B) : if c = true then A else B := by rw [hc, if_neg Bool.false_ne_true]; exact h
theorem if_2 {c : Prop} [Decidable c] {A B : Prop} (h1 : c → A) (h2 : ¬ c → B) : if decide c = true then A else B := by
  by_cases h : c
  · exact if_t (decide_eq_true h) (h1 h)
  · exact if_f (decide_eq_false h) (h2 h)
theorem if_n2 {c : Prop} [Decidable c] {A B : Prop} (h1 : ¬ c → A) (h2 : c → B) : if (!decide c) = true then A else B := by
  by_cases h : c
  · exact if_f (by rw [decide_eq_true h]; rfl) (h2 h)
  · exact if_t (by rw [decide_eq_false h]; rfl) (h1 h)
theorem if_b {c : Bool} {A B : Prop} (h1 : c = true → A) (h2 : c = false → B) : if c = true then A else B := by
  cases c with
  | true => exact if_t rfl (h1 rfl)
  | false => exact if_f rfl (h2 rfl)
theorem V.int_inj {i j : Int} : (V.int i = V.int j) ↔ i = j := ⟨fun h => V.int.inj h, fun h => by rw [h]⟩
end Go

/-! The mathematics of pairs. -/
namespace Mth
theorem gcd_step (x y : Int) : Int.gcd y (x % y) = Int.gcd x y := by
  rw [Int.emod_def, Int.gcd_sub_mul_left_right, Int.gcd_comm]
/-- the pair of a by b: its two numbers -/
def pn (a b : Int) : Int := b.sign * a / (Int.gcd a b : Int)
def pd (a b : Int) : Int := (b.natAbs : Int) / (Int.gcd a b : Int)
theorem pair_ex {a b : Int} (hb : b ≠ 0) : ∃ g a' b' : Int, 0 < g ∧ g = Int.gcd a b ∧ a = g * a' ∧ b = g * b' ∧ Int.gcd a' b' = 1 ∧ b' ≠ 0 ∧ pn a b = b'.sign * a' ∧ pd a b = b'.natAbs := by
  have hg : 0 < Int.gcd a b := Int.gcd_pos_of_ne_zero_right a hb
  obtain ⟨a', ha⟩ := Int.gcd_dvd_left a b
  obtain ⟨b', hb'⟩ := Int.gcd_dvd_right a b
  have hg' : (0 : Int) < (Int.gcd a b : Int) := by omega
  generalize hG : (Int.gcd a b : Int) = g at *
  have nb : b' ≠ 0 := fun z => hb (by rw [hb', z, Int.mul_zero])
  have sg : g.sign = 1 := Int.sign_eq_one_of_pos hg'
  have ng : (g.natAbs : Int) = g := by omega
  have gc : Int.gcd a' b' = 1 := by
    have e := Int.gcd_mul_left g a' b'
    rw [← ha, ← hb'] at e
    have e1 : g.natAbs * Int.gcd a' b' = g.natAbs * 1 := by omega
    exact Nat.eq_of_mul_eq_mul_left (by omega) e1
  refine ⟨g, a', b', hg', rfl, ha, hb', gc, nb, ?_, ?_⟩
  · unfold pn
    rw [hG]
    have e : b.sign * a = g * (b'.sign * a') := by
      have e2 : b.sign = b'.sign := by rw [hb', Int.sign_mul, sg, Int.one_mul]
      have e3 : b.sign * a = b.sign * (g * a') := by rw [← ha]
      rw [e3, e2, ← Int.mul_assoc, Int.mul_comm b'.sign g, Int.mul_assoc]
    rw [e, Int.mul_ediv_cancel_left _ (by omega)]
  · unfold pd
    rw [hG]
    have e : (b.natAbs : Int) = g * (b'.natAbs : Int) := by
      rw [hb', Int.natAbs_mul, Int.natCast_mul, ng]
    rw [e, Int.mul_ediv_cancel_left _ (by omega)]
theorem sign_mul_self (b : Int) : b.sign * b = b.natAbs := by
  rcases Int.lt_trichotomy b 0 with h | h | h
  · rw [Int.sign_eq_neg_one_of_neg h]; omega
  · rw [h]; rfl
  · rw [Int.sign_eq_one_of_pos h]; omega
theorem pd_pos {a b : Int} (hb : b ≠ 0) : 0 < pd a b := by
  obtain ⟨g, a', b', _, _, _, _, _, nb, _, e⟩ := pair_ex (a := a) hb
  rw [e]; omega
theorem pn_cross {a b : Int} (hb : b ≠ 0) : pn a b * b = a * pd a b := by
  obtain ⟨g, a', b', hg, _, ha, hb', _, nb, e1, e2⟩ := pair_ex (a := a) hb
  rw [e1, e2, ← sign_mul_self]
  generalize b'.sign = s
  rw [ha, hb']
  simp only [Int.mul_assoc, Int.mul_left_comm, Int.mul_comm]
theorem natAbs_sign {b : Int} (hb : b ≠ 0) : b.sign.natAbs = 1 := by
  rcases Int.lt_or_gt_of_ne hb with h | h
  · rw [Int.sign_eq_neg_one_of_neg h]; rfl
  · rw [Int.sign_eq_one_of_pos h]; rfl
theorem gcd_sign {b x y : Int} (hb : b ≠ 0) : Int.gcd (b.sign * x) y = Int.gcd x y := by
  unfold Int.gcd
  rw [Int.natAbs_mul, natAbs_sign hb, Nat.one_mul]
theorem pair_cop {a b : Int} (hb : b ≠ 0) : Int.gcd (pn a b) (pd a b) = 1 := by
  obtain ⟨g, a', b', hg, _, ha, hb', gc, nb, e1, e2⟩ := pair_ex (a := a) hb
  rw [e1, e2, gcd_sign nb]
  unfold Int.gcd at gc ⊢
  rw [Int.natAbs_natCast]; exact gc
theorem pn_le {a b : Int} (hb : b ≠ 0) : (pn a b).natAbs ≤ a.natAbs := by
  obtain ⟨g, a', b', hg, _, ha, hb', gc, nb, e1, e2⟩ := pair_ex (a := a) hb
  rw [e1, Int.natAbs_mul, natAbs_sign nb, Nat.one_mul, ha, Int.natAbs_mul]
  exact Nat.le_mul_of_pos_left _ (by omega)
theorem pd_le {a b : Int} (hb : b ≠ 0) : (pd a b).natAbs ≤ b.natAbs := by
  obtain ⟨g, a', b', hg, _, ha, hb', gc, nb, e1, e2⟩ := pair_ex (a := a) hb
  rw [e2, Int.natAbs_natCast, hb', Int.natAbs_mul]
  exact Nat.le_mul_of_pos_left _ (by omega)
/-- halving both -/
theorem gcd_both {x y : Int} (hx : x % 2 = 0) (hy : y % 2 = 0) : Int.gcd x y = 2 * Int.gcd (x / 2) (y / 2) := by
  have e := Int.gcd_mul_left 2 (x / 2) (y / 2)
  rw [show (2 : Int) * (x / 2) = x by omega, show (2 : Int) * (y / 2) = y by omega] at e
  exact e
theorem gcd_odd {x y : Int} (hx : x % 2 = 0) (hy : ¬ y % 2 = 0) : Int.gcd x y = Int.gcd (x / 2) y := by
  have e : Int.gcd 2 y = 1 := by
    rw [Int.gcd_eq_one_iff]
    intro c h1 h2
    obtain ⟨k, hk⟩ := h1
    obtain ⟨m, hm⟩ := h2
    have e1 : (1 : Int) = y - 2 * (y / 2) := by omega
    rw [e1, hm]
    have e2 : c * m - 2 * (c * m / 2) = c * m - c * k * (c * m / 2) := by rw [← hk]
    rw [e2, Int.mul_assoc, ← Int.mul_sub]
    exact ⟨_, rfl⟩
  have e2 := Int.gcd_mul_right_left_of_gcd_eq_one (n := 2) (m := y) (k := x / 2) e
  rw [show (2 : Int) * (x / 2) = x by omega] at e2
  exact e2
end Mth

namespace Sum
open PySem PySem.Spec PyProof.Rows L2 Go
local macro_rules | `(tactic| walk_at "isi") => `(tactic| first
  | with_reducible refine Go.i_int_int ?_
  | with_reducible refine Go.i_int_bool ?_
  | with_reducible refine Go.i_int_str ?_
  | with_reducible refine Go.i_int_list ?_
  | with_reducible refine Go.i_int_tuple ?_
  | with_reducible refine Go.i_bl_int ?_
  | with_reducible refine Go.i_bl_bool ?_
  | with_reducible refine Go.i_bl_str ?_
  | with_reducible refine Go.i_bl_list ?_
  | with_reducible refine Go.i_bl_tuple ?_
  | with_reducible refine Go.i_str_int ?_
  | with_reducible refine Go.i_str_bool ?_
  | with_reducible refine Go.i_str_str ?_
  | with_reducible refine Go.i_str_list ?_
  | with_reducible refine Go.i_str_tuple ?_
  | with_reducible refine Go.i_non_int ?_
  | with_reducible refine Go.i_non_bool ?_
  | with_reducible refine Go.i_non_str ?_
  | with_reducible refine Go.i_non_list ?_
  | with_reducible refine Go.i_non_tuple ?_
  | ((with_reducible refine' Go.i_lst_int ?hh ?_); (case hh => walk_at "heap"))
  | ((with_reducible refine' Go.i_lst_bool ?hh ?_); (case hh => walk_at "heap"))
  | ((with_reducible refine' Go.i_lst_str ?hh ?_); (case hh => walk_at "heap"))
  | ((with_reducible refine' Go.i_lst_list ?hh ?_); (case hh => walk_at "heap"))
  | ((with_reducible refine' Go.i_lst_tuple ?hh ?_); (case hh => walk_at "heap"))
  | ((with_reducible refine' Go.i_tup_int ?hh ?_); (case hh => walk_at "heap"))
  | ((with_reducible refine' Go.i_tup_bool ?hh ?_); (case hh => walk_at "heap"))
  | ((with_reducible refine' Go.i_tup_str ?hh ?_); (case hh => walk_at "heap"))
  | ((with_reducible refine' Go.i_tup_list ?hh ?_); (case hh => walk_at "heap"))
  | ((with_reducible refine' Go.i_tup_tuple ?hh ?_); (case hh => walk_at "heap"))
  | ((with_reducible refine' Go.i_dK_int ?hh ?_); (case hh => walk_at "heap"))
  | ((with_reducible refine' Go.i_dK_bool ?hh ?_); (case hh => walk_at "heap"))
  | ((with_reducible refine' Go.i_dK_str ?hh ?_); (case hh => walk_at "heap"))
  | ((with_reducible refine' Go.i_dK_list ?hh ?_); (case hh => walk_at "heap"))
  | ((with_reducible refine' Go.i_dK_tuple ?hh ?_); (case hh => walk_at "heap")))
local macro_rules | `(tactic| walk_at "heap") => `(tactic| first | assumption | exact upd_same | (refine Go.keep ?_ (by assumption); walk_at "heap") | (refine Go.get (by assumption) ?_; walk_at "heap"))
local macro_rules | `(tactic| walk_at "s") => `(tactic| first
  | with_reducible refine Go.w_seq ?_
  | with_reducible refine Go.w_asg ?_
  | with_reducible refine Go.w_op ?_
  | ((with_reducible refine' Go.w_var ?hh ?_); (case hh => exact rfl))
  | with_reducible refine Go.w_con ?_
  | with_reducible refine Go.w_I0 ?_
  | ((with_reducible refine Go.w_mulI ?hh ?_); (case hh => first | exact Or.inl ⟨by decide, by decide⟩ | exact Or.inr ⟨by decide, by decide⟩))
  | ((with_reducible refine Go.w_modI ?hh ?_); (case hh => first | decide | omega))
  | ((with_reducible refine Go.w_divI ?hh ?_); (case hh => exact ⟨by decide +kernel, by decide +kernel⟩))
  | ((with_reducible refine Go.w_powI ?hh ?_); (case hh => exact ⟨by decide +kernel, by decide +kernel, by decide +kernel⟩))
  | ((with_reducible refine Go.w_shrI ?hh ?_); (case hh => first | decide | omega))
  | with_reducible refine Go.w_if ?_
  | with_reducible refine Go.w_test ?_
  | with_reducible refine Go.w_tB ?_
  | with_reducible refine Go.w_k ?_
  | with_reducible refine Go.w_call ?_
  | with_reducible refine Go.w_cons ?_
  | with_reducible refine Go.w_nil ?_
  | with_reducible refine Go.w_ret ?_
  | with_reducible refine Go.w_cb ?_
  | with_reducible refine Go.w_tup ?_
  | with_reducible refine Go.w_lst ?_
  | ((with_reducible refine Go.w_eq ?hh ?_); (case hh => exact rfl))
  | ((with_reducible refine Go.w_ne ?hh ?_); (case hh => exact rfl))
  | with_reducible refine Go.w_or ?_
  | with_reducible refine Go.w_and ?_
  | with_reducible refine Go.w_not ?_
  | with_reducible refine Go.w_next ?_
  | with_reducible refine Go.w_drop ?_
  | with_reducible refine Go.w_un ?_
  | with_reducible refine Go.w_U ?_
  | with_reducible refine Go.w_orV ?_
  | with_reducible refine Go.w_andV ?_
  | with_reducible refine Go.w_notV ?_
  | with_reducible refine Go.w_orT ?_
  | with_reducible refine Go.w_andT ?_
  | with_reducible refine Go.w_truI ?_
  | with_reducible refine Go.w_isB ?_
  | with_reducible refine Go.w_notB ?_
  | with_reducible refine Go.w_isN ?_
  | with_reducible refine Go.w_notN ?_
  | with_reducible refine Go.w_chain ?_
  | with_reducible refine Go.w_ifE ?_
  | with_reducible refine Go.w_abs ?_
  | with_reducible refine Go.w_intB ?_
  | with_reducible refine Go.w_sub ?_
  | with_reducible refine Go.w_par ?_
  | with_reducible refine Go.w_sl ?_
  | with_reducible refine Go.w_noPart ?_
  | with_reducible refine Go.w_part ?_
  | with_reducible refine Go.w_partI ?_
  | ((with_reducible refine' Go.w_ixT ?h1 ?h2 ?_); (case h1 => (apply Go.sqT; walk_at "heap")); (case h2 => exact rfl))
  | ((with_reducible refine' Go.w_ixL ?h1 ?h2 ?_); (case h1 => (apply Go.sqL; walk_at "heap")); (case h2 => exact rfl))
  | ((with_reducible refine' Go.w_lenT ?h1 ?_); (case h1 => (apply Go.sqT; walk_at "heap")))
  | ((with_reducible refine' Go.w_lenL ?h1 ?_); (case h1 => (apply Go.sqL; walk_at "heap")))
  | with_reducible refine Go.w_gName ?_
  | ((with_reducible refine' Go.w_gTup ?h1 ?h2 ?_); (case h1 => (apply Go.sqT; walk_at "heap")); (case h2 => exact rfl))
  | with_reducible refine Go.w_gCons ?_
  | with_reducible refine Go.w_gNil ?_
  | with_reducible refine Go.w_asgG ?_
  | walk_at "isi"
  | with_reducible refine Go.w_forI ?_
  | with_reducible refine Go.w_iL ?_
  | with_reducible refine Go.w_iT ?_
  | with_reducible refine Go.w_iR1 ?_
  | with_reducible refine Go.w_iR2 ?_
  | with_reducible refine Go.w_lc ?_
  | ((with_reducible refine Go.if_t ?hh ?_); (case hh => exact rfl))
  | ((with_reducible refine Go.if_f ?hh ?_); (case hh => exact rfl)))
local macro_rules | `(tactic| walk_at "go") => `(tactic| repeat (walk_at "s"))

/-! ### promises: pairs -/
def Bits (n : Nat) (i : Int) : Prop := i.natAbs < 2 ^ n
def spDivisor : Sp := fun vs H Q _ => ∃ a b : Int, vs = [.int a, .int b] ∧ 0 ≤ a ∧ 0 ≤ b ∧ Q (.int (Int.gcd a b)) H
def spPair : Sp := fun vs H Q _ => ∃ a b : Int, vs = [.int a, .int b] ∧ b ≠ 0 ∧ Bits 9000 b ∧ ∀ p, H p = none → Q (.ref p) (upd H p (.tup [.int (Mth.pn a b), .int (Mth.pd a b)]))
/-- of a whole number, and of what is none -/
def spWhole (K : PySem.W.Frag) : Sp := fun vs H Q _ => (∃ n : Int, vs = [.int n] ∧ Q (.bl true) H) ∨ (∃ b : Bool, vs = [.bl b] ∧ Q (.bl false) H) ∨ (∃ z : Str, vs = [.str z] ∧ Q (.bl false) H) ∨ (vs = [.non] ∧ Q (.bl false) H) ∨
  (∃ (a : Addr) (xs : List V), vs = [.ref a] ∧ (H a = some (.lst xs) ∨ H a = some (.tup xs)) ∧ Q (.bl false) H) ∨ (∃ (a : Addr) (kvs : List (Key × V)), vs = [.ref a] ∧ H a = some (.dK kvs) ∧ Q (.bl false) H)
/-- of two whole numbers -/
def spIsPair (K : PySem.W.Frag) : Sp := fun vs H Q _ => ∃ (p : Addr) (a b : Int), vs = [.ref p] ∧ H p = some (.tup [.int a, .int b]) ∧ Q (.bl (decide (1 ≤ b) && decide (Int.gcd a b = 1))) H

-- names: 0:thing
abbrev N_is_whole_number : List Str := ["thing"]
def t_is_whole_number (K : PySem.W.Frag) : TS :=
  (tRet (tAndV (tCB (rIsi K) (tCons (tVar 0) (tCons (tC (.ty "int")) tNil))) (tNotV (tCB (rIsi K) (tCons (tVar 0) (tCons (tC (.ty "bool")) tNil))))))

-- names: 0:one 1:other
abbrev N_divisor : List Str := ["one", "other"]
def t_divisor (K : PySem.W.Frag) : TS :=
  (tSeq (tWhile (tTest (tOp rNe (tVar 1) (tC (.int 0)))) (tPar 0 1 (tCons (tVar 1) (tCons (tOp rModI (tVar 0) (tVar 1)) tNil))))
    (tRet (tVar 0)))

-- names: 0:num 1:den 2:most
abbrev N_pair : List Str := ["num", "den", "most"]
def t_pair (K : PySem.W.Frag) : TS :=
  (tSeq (tIfS (tTest (tOp rLtI (tVar 1) (tC (.int 0)))) (tSeq (tAsg (tOp rSubI (tC (.int 0)) (tVar 0)) (gName 0))
      (tAsg (tOp rSubI (tC (.int 0)) (tVar 1)) (gName 1))) tNext)
    (tSeq (tAsg (tCall spDivisor [] E0 (tCons (tCB rAbs (tCons (tVar 0) tNil)) (tCons (tVar 1) tNil))) (gName 2))
    (tRet (tTup (tCons (tOp rDivI (tVar 0) (tVar 2)) (tCons (tOp rDivI (tVar 1) (tVar 2)) tNil))))))

-- names: 0:thing
abbrev N_is_pair : List Str := ["thing"]
def t_is_pair (K : PySem.W.Frag) : TS :=
  (tSeq (tIfS (tOr (tNot (tB (tCB (rIsi K) (tCons (tVar 0) (tCons (tC (.ty "tuple")) tNil))))) (tTest (tOp rNe (tCB (Evl.rLenS K) (tCons (tVar 0) tNil)) (tC (.int 2))))) (tRet (tC (.bl false))) tNext)
    (tSeq (tIfS (tOr (tNot (tB (tCall (spWhole K) [] E0 (tCons (tOp (rIxT K) (tVar 0) (tC (.int 0))) tNil)))) (tOr (tNot (tB (tCall (spWhole K) [] E0 (tCons (tOp (rIxT K) (tVar 0) (tC (.int 1))) tNil)))) (tTest (tOp rLtI (tOp (rIxT K) (tVar 0) (tC (.int 1))) (tC (.int 1)))))) (tRet (tC (.bl false))) tNext)
    (tRet (tOp rEq (tCall spDivisor [] E0 (tCons (tCB rAbs (tCons (tOp (rIxT K) (tVar 0) (tC (.int 0))) tNil)) (tCons (tOp (rIxT K) (tVar 0) (tC (.int 1))) tNil))) (tC (.int 1))))))


theorem divW {i j : Int} (h : 0 < j) (hb : Bits 9000 j) : CDivW i j := wide_div h hb (by decide) (Nat.le_refl _)
theorem p_is_whole_number_len {K : PySem.W.Frag} {vs : List V} {H : Hp} {Q : VK} {E : XK} (h : spWhole K vs H Q E) : vs.length = 1 := by
  rcases h with ⟨n, rfl, _⟩ | ⟨n, rfl, _⟩ | ⟨n, rfl, _⟩ | ⟨rfl, _⟩ | ⟨a, xs, rfl, _⟩ | ⟨a, kvs, rfl, _⟩ <;> rfl
theorem p_is_whole_number {K : PySem.W.Frag} {vs : List V} {H : Hp} {Q : VK} {E : XK} (h : spWhole K vs H Q E) : t_is_whole_number K { nx := fun _ H' => Q .non H', rt := Q } (start N_is_whole_number vs) H := by
  unfold t_is_whole_number
  rcases h with ⟨n, rfl, q⟩ | ⟨n, rfl, q⟩ | ⟨n, rfl, q⟩ | ⟨rfl, q⟩ | ⟨a, xs, rfl, h | h, q⟩ | ⟨a, kvs, rfl, h, q⟩ <;> (walk_at "go"; exact q)
theorem p_divisor_len {vs : List V} {H : Hp} {Q : VK} {E : XK} (h : spDivisor vs H Q E) : vs.length = 2 := by
  obtain ⟨a, b, rfl, _⟩ := h; rfl
theorem p_divisor {K : PySem.W.Frag} {vs : List V} {H : Hp} {Q : VK} {E : XK} (h : spDivisor vs H Q E) : t_divisor K { nx := fun _ H' => Q .non H', rt := Q } (start N_divisor vs) H := by
  obtain ⟨a, b, rfl, ha, hb, q⟩ := h
  unfold t_divisor
  walk_at "go"
  refine w_while (fun (p : Int × Int) => [some (.int p.1), some (.int p.2)]) (fun p H' => H' = H ∧ 0 ≤ p.1 ∧ 0 ≤ p.2 ∧ Int.gcd p.1 p.2 = Int.gcd a b) (fun p => p.2.toNat) (a, b) rfl ⟨rfl, ha, hb, rfl⟩ ?_
  rintro ⟨x, y⟩ H' ⟨rfl, hx, hy, e⟩
  simp only at hx hy e ⊢
  walk_at "go"
  refine if_n2 (fun h => ?_) (fun h => ?_)
  · have hy0 : y ≠ 0 := fun z => h (by rw [z])
    have hy1 : 0 < y := by omega
    refine w_turn ?_
    walk_at "go"
    refine ⟨_, _, rfl, (y, x % y), rfl, ⟨rfl, hy, Int.emod_nonneg _ hy0, ?_⟩, ?_⟩
    · show Int.gcd y (x % y) = Int.gcd a b
      rw [← e, Mth.gcd_step]
    · have := Int.emod_lt_of_pos x hy1
      have := Int.emod_nonneg x hy0
      show (x % y).toNat < y.toNat
      omega
  · have hy0 : y = 0 := V.int.inj h
    subst hy0
    walk_at "go"
    rw [Int.gcd_zero] at e
    have : x = (Int.gcd a b : Int) := by rw [← e]; omega
    rw [this]
    exact q
theorem p_pair_len {vs : List V} {H : Hp} {Q : VK} {E : XK} (h : spPair vs H Q E) : vs.length = 2 := by
  obtain ⟨a, b, rfl, _⟩ := h; rfl
theorem gcdBits {a b : Int} {n : Nat} (h0 : b ≠ 0) (h : Bits n b) : Bits n (Int.gcd a b : Int) := by
  have := Int.gcd_le_natAbs_right a h0
  unfold Bits at h ⊢
  omega
theorem p_pair {K : PySem.W.Frag} {vs : List V} {H : Hp} {Q : VK} {E : XK} (h : spPair vs H Q E) : t_pair K { nx := fun _ H' => Q .non H', rt := Q } (start N_pair vs) H := by
  obtain ⟨a, b, rfl, hb, bb, q⟩ := h
  have hg : 0 < Int.gcd a b := Int.gcd_pos_of_ne_zero_right a hb
  have hB := gcdBits (a := a) hb bb
  unfold t_pair
  walk_at "go"
  refine if_2 (fun h => ?_) (fun h => ?_)
  · walk_at "go"
    refine ⟨_, _, rfl, by omega, by omega, ?_⟩
    have e1 : Int.gcd ((0 - a).natAbs : Int) (0 - b) = Int.gcd a b := by
      unfold Int.gcd; congr 1 <;> omega
    rw [e1]
    walk_at "go"
    refine w_I (divW (by omega) hB) ?_
    walk_at "go"
    refine w_I (divW (by omega) hB) ?_
    walk_at "go"
    refine ⟨by show 2 ≤ sizeLine; decide, fun p hp => ?_⟩
    have e2 : (0 - a) / (Int.gcd a b : Int) = Mth.pn a b := by
      unfold Mth.pn
      rw [Int.sign_eq_neg_one_of_neg h]; congr 1; omega
    have e3 : (0 - b) / (Int.gcd a b : Int) = Mth.pd a b := by
      unfold Mth.pd
      congr 1; omega
    rw [e2, e3]
    exact q p hp
  · walk_at "go"
    refine ⟨_, _, rfl, by omega, by omega, ?_⟩
    have e1 : Int.gcd (a.natAbs : Int) b = Int.gcd a b := by
      unfold Int.gcd; rw [Int.natAbs_natCast]
    rw [e1]
    walk_at "go"
    refine w_I (divW (by omega) hB) ?_
    walk_at "go"
    refine w_I (divW (by omega) hB) ?_
    walk_at "go"
    refine ⟨by show 2 ≤ sizeLine; decide, fun p hp => ?_⟩
    have e2 : a / (Int.gcd a b : Int) = Mth.pn a b := by
      unfold Mth.pn
      rw [Int.sign_eq_one_of_pos (by omega)]; congr 1; omega
    have e3 : b / (Int.gcd a b : Int) = Mth.pd a b := by
      unfold Mth.pd
      congr 1; omega
    rw [e2, e3]
    exact q p hp
theorem p_is_pair_len {K : PySem.W.Frag} {vs : List V} {H : Hp} {Q : VK} {E : XK} (h : spIsPair K vs H Q E) : vs.length = 1 := by
  obtain ⟨a, b, c, rfl, _⟩ := h; rfl
theorem p_is_pair {K : PySem.W.Frag} {vs : List V} {H : Hp} {Q : VK} {E : XK} (h : spIsPair K vs H Q E) : t_is_pair K { nx := fun _ H' => Q .non H', rt := Q } (start N_is_pair vs) H := by
  obtain ⟨p, a, b, rfl, hp, q⟩ := h
  unfold t_is_pair
  walk_at "go"
  refine .inl ⟨_, rfl, ?_⟩
  walk_at "go"
  refine .inl ⟨_, rfl, ?_⟩
  walk_at "go"
  refine if_2 (fun h => ?_) (fun h => ?_)
  · walk_at "go"
    rw [decide_eq_false (by omega)] at q
    exact q
  · rw [decide_eq_true (by omega), Bool.true_and] at q
    walk_at "go"
    refine ⟨_, _, rfl, by omega, by omega, ?_⟩
    walk_at "go"
    have e : decide (V.int ((Int.gcd (a.natAbs : Int) b : Nat) : Int) = V.int 1) = decide (Int.gcd a b = 1) := by
      have e1 : Int.gcd (a.natAbs : Int) b = Int.gcd a b := by
        unfold Int.gcd; rw [Int.natAbs_natCast]
      rw [e1]
      refine decide_eq_decide.mpr ⟨fun h => ?_, fun h => ?_⟩
      · have := V.int.inj h; omega
      · rw [h]; rfl
    rw [e]
    exact q

/-! ### promises: what the law draws by -/
def Src (H : Hp) (l : Addr) : Prop := ∃ a b c : Int, H l = some (.lst [.int a, .int b, .int c])
/-- by a draw the source alone has changed -/
structure Dr (l : Addr) (H H' : Hp) : Prop where
  keep : ∀ p o, p ≠ l → H p = some o → H' p = some o
  src0 : Src H l
  src : Src H' l
theorem Dr.trans {l : Addr} {H H1 H2 : Hp} (a : Dr l H H1) (b : Dr l H1 H2) : Dr l H H2 := ⟨fun p o n h => b.keep p o n (a.keep p o n h), a.src0, b.src⟩
theorem Dr.refl {l : Addr} {H : Hp} (s : Src H l) : Dr l H H := ⟨fun _ _ _ h => h, s, s⟩
theorem Dr.tup {l : Addr} {H H' : Hp} {a : Addr} {xs : List V} (d : Dr l H H') (h : H a = some (.tup xs)) : H' a = some (.tup xs) := by
  obtain ⟨x, y, z, e⟩ := d.src0
  exact d.keep a _ (ne_of h e (by intro z; cases z)) h
theorem Dr.free {l : Addr} {H H' : Hp} {p : Addr} (d : Dr l H H') (h : H' p = none) : H p = none := by
  obtain ⟨x, y, z, e⟩ := d.src
  cases q : H p with
  | none => rfl
  | some o =>
    by_cases n : p = l
    · rw [n, e] at h; cases h
    · rw [d.keep p o n q] at h; cases h
theorem Src.ext {l : Addr} {H H' : Hp} (s : Src H l) (e : Same H H') : Src H' l := by
  obtain ⟨x, y, z, h⟩ := s
  exact ⟨x, y, z, e _ _ h⟩
theorem Dr.same {l : Addr} {H H' : Hp} (s : Src H l) (e : Same H H') : Dr l H H' := ⟨fun p o _ h => e p o h, s, s.ext e⟩
theorem Dr.new {l : Addr} {H H' : Hp} {p : Addr} {o : HO} (d : Dr l H H') (hp : H' p = none) : Dr l H (upd H' p o) := d.trans (Dr.same d.src (same_new hp))
theorem Src.new {l : Addr} {H : Hp} {p : Addr} {o : HO} (s : Src H l) (hp : H p = none) : Src (upd H p o) l := s.ext (same_new hp)
/-- what H0 had stays while a thing that H0 had not is drawn by -/
theorem Dr.same_of {l : Addr} {H0 H H' : Hp} (d : Dr l H H') (s : Same H0 H) (hl : H0 l = none) : Same H0 H' := fun p o h => d.keep p o (ne_of_none h hl) (s p o h)
def spCellAt (K : PySem.W.Frag) : Sp := fun vs H Q _ => ∃ (a : Addr) (ns : List Int) (k : Nat), vs = [.ref a, .int k] ∧ SqL K H a (ns.map V.int) ∧ ∀ n : Int, Q (.int n) H
def spBegin : Sp := fun vs H Q _ => ∃ n : Int, vs = [.int n] ∧ ∀ l H', H l = none → Same H H' → Src H' l → Q (.ref l) H'
def spDraw : Sp := fun vs H Q _ => ∃ (l : Addr) (m : Int), vs = [.ref l, .int m] ∧ Src H l ∧ 0 < m ∧ m.natAbs < 2 ^ 200 ∧ ∀ d H', 0 ≤ d → d < m → Dr l H H' → Q (.int d) H'
def spFar : Sp := fun vs H Q _ => ∃ l : Addr, vs = [.ref l] ∧ Src H l ∧ ∀ n H', Bits 200 n → Dr l H H' → Q (.int n) H'

-- names: 0:_law_script 1:_law_k
abbrev N_l_cell_at : List Str := ["_law_script", "_law_k"]
def t_l_cell_at (K : PySem.W.Frag) : TS :=
  (tSeq (tIfS (tTest (tOp rLtI (tVar 1) (tCB (Evl.rLenS K) (tCons (tVar 0) tNil)))) (tRet (tOp (rIxL K) (tVar 0) (tVar 1))) tNext)
    (tRet (tC (.int 0))))

-- names: 0:_law_cell
abbrev N_l_begin : List Str := ["_law_cell"]
def t_l_begin (K : PySem.W.Frag) : TS :=
  (tRet (tLst (tCons (tOp (rIxL K) (tLst (tCons (tC (.int 0)) (tCons (tVar 0) tNil))) (tCB rInt1 (tCons (tOp rGeI (tVar 0) (tOp rPowI (tC (.int 10)) (tC (.int 18)))) tNil))) (tCons (tOp rModI (tVar 0) (tC (.int 2147483647))) (tCons (tC (.int 0)) tNil)))))

-- names: 0:_law_source 1:_law_most 2:_law_found 3:_law_number
abbrev N_l_draw : List Str := ["_law_source", "_law_most", "_law_found", "_law_number"]
def t_l_draw (K : PySem.W.Frag) : TS :=
  (tSeq (tIfS (tTest (tOp rGtI (tOp (rIxL K) (tVar 0) (tC (.int 0))) (tC (.int 0)))) (tSeq (tAsg (tOp rModI (tOp (rIxL K) (tVar 0) (tC (.int 0))) (tVar 1)) (gName 2))
      (tSeq (tAsg (tOp rDivI (tOp (rIxL K) (tVar 0) (tC (.int 0))) (tVar 1)) (gSub (tVar 0) (tC (.int 0)) rSetL))
      (tRet (tVar 2)))) tNext)
    (tSeq (tAsg (tOp rAddI (tOp (rIxL K) (tVar 0) (tC (.int 2))) (tC (.int 1))) (gSub (tVar 0) (tC (.int 2)) rSetL))
    (tSeq (tAsg (tOp rModI (tOp rMulI (tOp rAddI (tOp rAddI (tOp (rIxL K) (tVar 0) (tC (.int 1))) (tOp rMulI (tC (.int 7919)) (tOp (rIxL K) (tVar 0) (tC (.int 2))))) (tC (.int 1))) (tC (.int 48271))) (tC (.int 2147483647))) (gName 3))
    (tSeq (tAsg (tOp rModI (tOp rMulX (tVar 3) (tOp rAddI (tOp rDivI (tVar 3) (tC (.int 1009))) (tC (.int 69621)))) (tC (.int 2147483647))) (gName 3))
    (tRet (tOp rModI (tOp rModI (tOp rMulX (tVar 3) (tOp rAddI (tOp rDivI (tVar 3) (tC (.int 2003))) (tC (.int 40692)))) (tC (.int 2147483399))) (tVar 1)))))))

-- names: 0:_law_source 1:_law_way 2:_law_small 3:_law_great 4:_law_k 5:_law_twos
abbrev N_l_far : List Str := ["_law_source", "_law_way", "_law_small", "_law_great", "_law_k", "_law_twos"]
def t_l_far (K : PySem.W.Frag) : TS :=
  (tSeq (tAsg (tCall spDraw [] E0 (tCons (tVar 0) (tCons (tC (.int 6)) tNil))) (gName 1))
    (tSeq (tAsg (tOp rSubI (tCall spDraw [] E0 (tCons (tVar 0) (tCons (tC (.int 13)) tNil))) (tC (.int 6))) (gName 2))
    (tSeq (tAsg (tC (.int 0)) (gName 3))
    (tSeq (tFor (iRng1 (tCons (tOp rAddI (tC (.int 1)) (tCall spDraw [] E0 (tCons (tVar 0) (tCons (tC (.int 6)) tNil)))) tNil)) (gName 4) (tAsg (tOp rAddI (tOp rMulX (tVar 3) (tOp rPowI (tC (.int 10)) (tC (.int 10)))) (tCall spDraw [] E0 (tCons (tVar 0) (tCons (tOp rPowI (tC (.int 10)) (tC (.int 10))) tNil)))) (gName 3)))
    (tSeq (tAsg (tOp rSubI (tOp rAddI (tOp rShlI (tC (.int 1)) (tCall spDraw [] E0 (tCons (tVar 0) (tCons (tC (.int 200)) tNil)))) (tCall spDraw [] E0 (tCons (tVar 0) (tCons (tC (.int 3)) tNil)))) (tC (.int 1))) (gName 5))
    (tRet (tOp (rIxL K) (tLst (tCons (tVar 2) (tCons (tVar 2) (tCons (tVar 3) (tCons (tOp rSubI (tC (.int 0)) (tVar 3)) (tCons (tVar 5) (tCons (tOp rSubI (tC (.int 0)) (tVar 5)) tNil))))))) (tVar 1))))))))


theorem p_l_cell_at_len {K : PySem.W.Frag} {vs : List V} {H : Hp} {Q : VK} {E : XK} (h : spCellAt K vs H Q E) : vs.length = 2 := by
  obtain ⟨a, ns, k, rfl, _⟩ := h; rfl
theorem p_l_cell_at {K : PySem.W.Frag} {vs : List V} {H : Hp} {Q : VK} {E : XK} (h : spCellAt K vs H Q E) : t_l_cell_at K { nx := fun _ H' => Q .non H', rt := Q } (start N_l_cell_at vs) H := by
  obtain ⟨a, ns, k, rfl, hS, q⟩ := h
  unfold t_l_cell_at
  walk_at "go"
  refine w_lenL hS ?_
  walk_at "go"
  refine if_2 (fun h => ?_) (fun h => ?_)
  · rw [List.length_map] at h
    have hk : k < ns.length := by omega
    walk_at "go"
    refine w_ixL hS (v := .int ns[k]) (atI_nat (by rw [List.getElem?_map, List.getElem?_eq_getElem hk]; rfl)) ?_
    exact q _
  · walk_at "go"
    exact q _
theorem p_l_begin_len {vs : List V} {H : Hp} {Q : VK} {E : XK} (h : spBegin vs H Q E) : vs.length = 1 := by
  obtain ⟨n, rfl, _⟩ := h; rfl
theorem p_l_begin {K : PySem.W.Frag} {vs : List V} {H : Hp} {Q : VK} {E : XK} (h : spBegin vs H Q E) : t_l_begin K { nx := fun _ H' => Q .non H', rt := Q } (start N_l_begin vs) H := by
  obtain ⟨n, rfl, q⟩ := h
  unfold t_l_begin
  walk_at "go"
  refine ⟨by show 2 ≤ sizeLine; decide, fun p hp => ?_⟩
  walk_at "go"
  have e : atI [V.int 0, V.int n] (if decide ((10 : Int) ^ (18 : Int).toNat ≤ n) = true then 1 else 0) = some (.int (if decide ((10 : Int) ^ (18 : Int).toNat ≤ n) = true then n else 0)) := by
    split <;> rfl
  refine w_ixL (sqL upd_same) e ?_
  walk_at "go"
  refine ⟨by show 3 ≤ sizeLine; decide, fun l hl => ?_⟩
  exact q l _ (free_of hl) (same_in (same_new hp) hl) ⟨_, _, _, upd_same⟩
theorem p_l_draw_len {vs : List V} {H : Hp} {Q : VK} {E : XK} (h : spDraw vs H Q E) : vs.length = 2 := by
  obtain ⟨l, m, rfl, _⟩ := h; rfl
theorem dr_set {l : Addr} {H : Hp} {a b c : Int} (s : Src H l) : Dr l H (upd H l (.lst [.int a, .int b, .int c])) := ⟨fun p o n h => by rw [upd_ne n]; exact h, s, ⟨_, _, _, upd_same⟩⟩
theorem mulS {i j : Int} (h0 : -(2 ^ 64) < i) (h1 : i < 2 ^ 64) (h2 : -(2 ^ 64) < j) (h3 : j < 2 ^ 64) : CMulX i j := by
  have a : i.natAbs < 2 ^ 64 := by omega
  have b : j.natAbs < 2 ^ 64 := by omega
  exact mulx_ok a b (by decide)
theorem p_l_draw {K : PySem.W.Frag} {vs : List V} {H : Hp} {Q : VK} {E : XK} (h : spDraw vs H Q E) : t_l_draw K { nx := fun _ H' => Q .non H', rt := Q } (start N_l_draw vs) H := by
  obtain ⟨l, m, rfl, hs, hm, bm, q⟩ := h
  obtain ⟨a, b, c, hl⟩ := id hs
  unfold t_l_draw
  walk_at "go"
  refine if_2 (fun h => ?_) (fun h => ?_)
  · walk_at "go"
    refine w_I (wide_div hm bm (by decide) (by decide)) ?_
    walk_at "go"
    refine w_setL hl (j := 0) rfl ?_
    walk_at "go"
    exact q _ _ (Int.emod_nonneg _ (by omega)) (Int.emod_lt_of_pos _ hm) (dr_set hs)
  · walk_at "go"
    refine w_setL hl (j := 2) rfl ?_
    walk_at "go"
    have e1 : ∀ n : Int, 0 ≤ n % 2147483647 ∧ n % 2147483647 < 2147483647 := fun n => by omega
    generalize hn1 : (b + 7919 * (c + 1) + 1) * 48271 % 2147483647 = n1
    have b1 := e1 ((b + 7919 * (c + 1) + 1) * 48271)
    rw [hn1] at b1
    have c1 : 0 ≤ n1 / 1009 ∧ n1 / 1009 < 2147483647 := by omega
    refine w_I (mulS (by omega) (by omega) (by omega) (by omega)) ?_
    walk_at "go"
    generalize hn2 : n1 * (n1 / 1009 + 69621) % 2147483647 = n2
    have b2 := e1 (n1 * (n1 / 1009 + 69621))
    rw [hn2] at b2
    have c2 : 0 ≤ n2 / 2003 ∧ n2 / 2003 < 2147483647 := by omega
    refine w_I (mulS (by omega) (by omega) (by omega) (by omega)) ?_
    walk_at "go"
    exact q _ _ (Int.emod_nonneg _ (by omega)) (Int.emod_lt_of_pos _ hm) (dr_set hs)
theorem p_l_far_len {vs : List V} {H : Hp} {Q : VK} {E : XK} (h : spFar vs H Q E) : vs.length = 1 := by
  obtain ⟨l, rfl, _⟩ := h; rfl
theorem far_grow {g d : Int} {i : Nat} (h0 : 0 ≤ g) (h1 : g < 10000000000 ^ i) (hd0 : 0 ≤ d) (hd1 : d < 10000000000) : 0 ≤ g * 10000000000 + d ∧ g * 10000000000 + d < 10000000000 ^ (i + 1) := by
  rw [Int.pow_succ]
  refine ⟨by omega, ?_⟩
  generalize (10000000000 : Int) ^ i = w at *
  omega
theorem far_bound {g : Int} {i : Nat} (h0 : 0 ≤ g) (h1 : g < 10000000000 ^ i) (hi : i ≤ 6) : g < 2 ^ 200 := by
  have : (10000000000 : Int) ^ i ≤ 10000000000 ^ 6 := by
    rcases (by omega : i = 0 ∨ i = 1 ∨ i = 2 ∨ i = 3 ∨ i = 4 ∨ i = 5 ∨ i = 6) with h | h | h | h | h | h | h <;> subst h <;> decide
  have : (10000000000 : Int) ^ 6 < 2 ^ 200 := by decide
  omega
theorem two_pow_le {n : Nat} (h : n < 200) : (2 : Int) ^ n ≤ 2 ^ 199 ∧ 0 < (2 : Int) ^ n := by
  have e := Nat.pow_le_pow_right (n := 2) (by decide) (by omega : n ≤ 199)
  have e1 := PySem.W.kbt_cast n
  have e2 := PySem.W.kbt_cast 199
  have e3 : 0 < (2 : Nat) ^ n := Nat.pow_pos (by decide)
  omega
theorem p_l_far {K : PySem.W.Frag} {vs : List V} {H : Hp} {Q : VK} {E : XK} (h : spFar vs H Q E) : t_l_far K { nx := fun _ H' => Q .non H', rt := Q } (start N_l_far vs) H := by
  obtain ⟨l, rfl, hs, q⟩ := h
  unfold t_l_far
  walk_at "go"
  refine ⟨l, 6, rfl, hs, by decide, by decide, fun way H1 w0 w1 d1 => ?_⟩
  walk_at "go"
  refine ⟨l, 13, rfl, d1.src, by decide, by decide, fun small H2 s0 s1 d2 => ?_⟩
  walk_at "go"
  refine ⟨l, 6, rfl, d2.src, by decide, by decide, fun n H3 n0 n1 d3 => ?_⟩
  walk_at "go"
  have dd3 := (d1.trans d2).trans d3
  refine ⟨_, rfl, by omega, by omega, for_range (lo := 0) (n := (1 + n).toNat) (fun i σ H' => ∃ (g : Int) (k : Option V), σ = [some (.ref l), some (.int way), some (.int (small - 6)), some (.int g), k, none] ∧ 0 ≤ g ∧ g < 10000000000 ^ i ∧ Dr l H H') ⟨0, none, rfl, by decide, by decide, dd3⟩ ?_ ?_⟩
  · rintro i σ H4 hi ⟨g, k, rfl, g0, g1, d4⟩
    have gb := far_bound g0 g1 (by omega)
    walk_at "go"
    refine w_I (mulx_ok (a := 200) (b := 64) (by omega) (by decide +kernel) (by decide)) ?_
    walk_at "go"
    refine ⟨l, _, rfl, d4.src, by decide +kernel, by decide +kernel, fun d H5 e0 e1 d5 => ?_⟩
    walk_at "go"
    have e1' : d < 10000000000 := e1
    have := far_grow g0 g1 e0 e1'
    exact ⟨_, _, rfl, this.1, this.2, d4.trans d5⟩
  · rintro σ H4 ⟨g, k, rfl, g0, g1, d4⟩
    have gb := far_bound g0 g1 (by omega)
    walk_at "go"
    refine ⟨l, 200, rfl, d4.src, by decide, by decide, fun e H5 e0 e1 d5 => ?_⟩
    obtain ⟨en, rfl⟩ := Int.eq_ofNat_of_zero_le e0
    walk_at "go"
    refine w_I (shl_ok (n := 1) (by decide) (by omega)) ?_
    walk_at "go"
    refine ⟨l, 3, rfl, d5.src, by decide, by decide, fun f H6 f0 f1 d6 => ?_⟩
    walk_at "go"
    refine ⟨by show 6 ≤ sizeLine; decide, fun p hp => ?_⟩
    have d7 := ((d4.trans d5).trans d6).new (o := .lst [.int (small - 6), .int (small - 6), .int g, .int (0 - g), .int (1 * 2 ^ (en : Int).toNat + f - 1), .int (0 - (1 * 2 ^ (en : Int).toNat + f - 1))]) hp
    have p1 := two_pow_le (n := en) (by omega)
    have et : (1 : Int) * 2 ^ (en : Int).toNat = 2 ^ en := by rw [Int.one_mul, Int.toNat_natCast]
    rw [et] at d7 ⊢
    have p2 : (2 : Int) ^ 199 < 2 ^ 200 - 10 := by decide
    have p3 : (2 : Int) ^ 200 = ((2 ^ 200 : Nat) : Int) := by decide
    have p4 : (20 : Int) < 2 ^ 200 := by decide
    generalize (2 : Int) ^ en = pw at *
    walk_at "go"
    rcases (by omega : way = 0 ∨ way = 1 ∨ way = 2 ∨ way = 3 ∨ way = 4 ∨ way = 5) with h | h | h | h | h | h <;> subst h <;> refine w_ixL (sqL upd_same) rfl ?_ <;> refine q _ _ ?_ d7 <;> unfold Bits <;> omega

def spCommon : Sp := fun vs H Q _ => ∃ a b : Int, vs = [.int a, .int b] ∧ 0 ≤ a ∧ 0 < b ∧ Bits 9000 b ∧ Q (.int (Int.gcd a b)) H
def spRight : Sp := fun vs H Q _ => ∃ a b : Int, vs = [.int a, .int b] ∧ b ≠ 0 ∧ Bits 400 a ∧ Bits 400 b ∧ ∀ H', Same H H' → Q (.bl true) H'
def spLaw (K : PySem.W.Frag) : Sp := fun vs H Q _ => ∃ (a : Addr) (ns : List Int), vs = [.ref a] ∧ SqL K H a (ns.map V.int) ∧ ns.length ≤ 63 ∧ ∀ H', Q (.bl true) H'

-- names: 0:_law_one 1:_law_other 2:_law_twos
abbrev N_l_common : List Str := ["_law_one", "_law_other", "_law_twos"]
def t_l_common (K : PySem.W.Frag) : TS :=
  (tSeq (tAsg (tC (.int 0)) (gName 2))
    (tSeq (tWhile (tAnd (tTest (tOp rGtI (tVar 0) (tC (.int 0)))) (tTest (tOp rGtI (tVar 1) (tC (.int 0))))) (tSeq (tWhile (tAnd (tTest (tOp rEq (tOp rModI (tVar 0) (tC (.int 2))) (tC (.int 0)))) (tTest (tOp rEq (tOp rModI (tVar 1) (tC (.int 2))) (tC (.int 0))))) (tSeq (tAsg (tOp rShrI (tVar 0) (tC (.int 1))) (gName 0))
        (tSeq (tAsg (tOp rShrI (tVar 1) (tC (.int 1))) (gName 1))
        (tAsg (tOp rAddI (tVar 2) (tC (.int 1))) (gName 2)))))
      (tSeq (tWhile (tTest (tOp rEq (tOp rModI (tVar 0) (tC (.int 2))) (tC (.int 0)))) (tAsg (tOp rShrI (tVar 0) (tC (.int 1))) (gName 0)))
      (tSeq (tWhile (tTest (tOp rEq (tOp rModI (tVar 1) (tC (.int 2))) (tC (.int 0)))) (tAsg (tOp rShrI (tVar 1) (tC (.int 1))) (gName 1)))
      (tSeq (tIfS (tTest (tOp rLtI (tVar 0) (tVar 1))) (tPar 0 1 (tCons (tVar 1) (tCons (tVar 0) tNil))) tNext)
      (tAsg (tOp rSubI (tVar 0) (tVar 1)) (gName 0)))))))
    (tRet (tOp rShlI (tOp rAddI (tVar 0) (tVar 1)) (tVar 2)))))

-- names: 0:_law_num 1:_law_den 2:_law_found 3:_law_one
abbrev N_l_right : List Str := ["_law_num", "_law_den", "_law_found", "_law_one"]
def t_l_right (K : PySem.W.Frag) : TS :=
  (tSeq (tAsg (tCall spPair [] E0 (tCons (tVar 0) (tCons (tVar 1) tNil))) (gName 2))
    (tSeq (tIfS (tOr (tNot (tB (tCB (rIsi K) (tCons (tVar 2) (tCons (tC (.ty "tuple")) tNil))))) (tOr (tTest (tOp rNe (tCB (Evl.rLenS K) (tCons (tVar 2) tNil)) (tC (.int 2)))) (tTest (tOp (rNeD K) (tVar 2) (tCall spPair [] E0 (tCons (tVar 0) (tCons (tVar 1) tNil))))))) (tRet (tC (.bl false))) tNext)
    (tSeq (tIfS (tTest (tOp (rNeD K) (tLc (iTup K (tVar 2)) (gName 3) (tOr (tNot (tB (tCB (rIsi K) (tCons (tVar 3) (tCons (tC (.ty "int")) tNil))))) (tB (tCB (rIsi K) (tCons (tVar 3) (tCons (tC (.ty "bool")) tNil))))) (tVar 3) [3]) (tLst tNil))) (tRet (tC (.bl false))) tNext)
    (tSeq (tIfS (tOr (tTest (tOp rLtI (tOp (rIxT K) (tVar 2) (tC (.int 1))) (tC (.int 1)))) (tTest (tOp rNotB (tCall (spIsPair K) [] E0 (tCons (tVar 2) tNil)) (tC (.bl true))))) (tRet (tC (.bl false))) tNext)
    (tRet (tAndV (tOp rEq (tOp rMulX (tOp (rIxT K) (tVar 2) (tC (.int 0))) (tVar 1)) (tOp rMulX (tVar 0) (tOp (rIxT K) (tVar 2) (tC (.int 1))))) (tOp rEq (tCall spCommon [] E0 (tCons (tCB rAbs (tCons (tOp (rIxT K) (tVar 2) (tC (.int 0))) tNil)) (tCons (tOp (rIxT K) (tVar 2) (tC (.int 1))) tNil))) (tC (.int 1)))))))))

-- names: 0:_law_script 1:_law_cell 2:_law_source 3:_law_num 4:_law_den 5:_law_more
abbrev N_law : List Str := ["_law_script", "_law_cell", "_law_source", "_law_num", "_law_den", "_law_more"]
def t_law (K : PySem.W.Frag) : TS :=
  (tSeq (tFor (iList K (tOp rCat (tLst (tCons (tCall (spCellAt K) [] E0 (tCons (tVar 0) (tCons (tC (.int 0)) tNil))) tNil)) (tSl (rSlL K) (tVar 0) (tPart (tC (.int 1))) (tPart (tC (.int 20)))))) (gName 1) (tSeq (tAsg (tCall spBegin [] E0 (tCons (tVar 1) tNil)) (gName 2))
      (tSeq (tAsg (tCall spFar [] E0 (tCons (tVar 2) tNil)) (gName 3))
      (tSeq (tAsg (tOrT K (tCall spFar [] E0 (tCons (tVar 2) tNil)) (tOp rAddI (tC (.int 1)) (tCall spDraw [] E0 (tCons (tVar 2) (tCons (tC (.int 40)) tNil))))) (gName 4))
      (tSeq (tAsg (tOp (rIxL K) (tLst (tCons (tC (.int 1)) (tCons (tC (.int 1)) (tCons (tOrT K (tCall spFar [] E0 (tCons (tVar 2) tNil)) (tC (.int 1))) tNil)))) (tCall spDraw [] E0 (tCons (tVar 2) (tCons (tC (.int 3)) tNil)))) (gName 5))
      (tIfS (tOr (tNot (tB (tCall spRight [] E0 (tCons (tVar 3) (tCons (tVar 4) tNil))))) (tOr (tNot (tB (tCall spRight [] E0 (tCons (tOp rMulX (tVar 3) (tVar 5)) (tCons (tOp rMulX (tVar 4) (tVar 5)) tNil))))) (tNot (tB (tCall spRight [] E0 (tCons (tC (.int 0)) (tCons (tVar 4) tNil))))))) (tRet (tC (.bl false))) tNext))))))
    (tRet (tAndV (tOp (rEqD K) (tCall spPair [] E0 (tCons (tC (.int 6)) (tCons (tUn rNegI (tC (.int 4))) tNil))) (tTup (tCons (tUn rNegI (tC (.int 3))) (tCons (tC (.int 2)) tNil)))) (tOp (rEqD K) (tCall spPair [] E0 (tCons (tC (.int 0)) (tCons (tUn rNegI (tC (.int 7))) tNil))) (tTup (tCons (tC (.int 0)) (tCons (tC (.int 1)) tNil)))))))

theorem p_l_common_len {vs : List V} {H : Hp} {Q : VK} {E : XK} (h : spCommon vs H Q E) : vs.length = 2 := by
  obtain ⟨a, b, rfl, _⟩ := h; rfl
theorem half_pow (x : Int) : x / 2 ^ (1 : Int).toNat = x / 2 := by
  have e2 : (2 : Int) ^ (1 : Int).toNat = 2 := by decide
  rw [e2]
theorem V_int_dec {i j : Int} : (V.int i = V.int j) = (i = j) := propext Go.V.int_inj
/-- what holds in the loops: gcd with the twos that were taken -/
structure Cm (G : Nat) (x y k : Int) : Prop where
  x0 : 0 ≤ x
  y0 : 0 ≤ y
  k0 : 0 ≤ k
  g : Int.gcd x y * 2 ^ k.toNat = G
theorem Cm.both {G : Nat} {x y k : Int} (c : Cm G x y k) (hx : x % 2 = 0) (hy : y % 2 = 0) : Cm G (x / 2) (y / 2) (k + 1) := by
  have := c.x0; have := c.y0; have := c.k0
  refine ⟨by omega, by omega, by omega, ?_⟩
  have e := c.g
  rw [Mth.gcd_both hx hy] at e
  rw [show (k + 1).toNat = k.toNat + 1 by omega, Nat.pow_succ, ← e]
  generalize Int.gcd (x / 2) (y / 2) = g
  generalize 2 ^ k.toNat = p
  rw [Nat.mul_comm 2 g, Nat.mul_assoc, Nat.mul_comm 2 p]
theorem Cm.left {G : Nat} {x y k : Int} (c : Cm G x y k) (hx : x % 2 = 0) (hy : ¬ y % 2 = 0) : Cm G (x / 2) y k := by
  have := c.x0
  exact ⟨by omega, c.y0, c.k0, by rw [← Mth.gcd_odd hx hy]; exact c.g⟩
theorem Cm.right {G : Nat} {x y k : Int} (c : Cm G x y k) (hx : ¬ x % 2 = 0) (hy : y % 2 = 0) : Cm G x (y / 2) k := by
  have := c.y0
  exact ⟨c.x0, by omega, c.k0, by rw [Int.gcd_comm, ← Mth.gcd_odd hy hx, Int.gcd_comm]; exact c.g⟩
theorem Cm.swap {G : Nat} {x y k : Int} (c : Cm G x y k) : Cm G y x k := ⟨c.y0, c.x0, c.k0, by rw [Int.gcd_comm]; exact c.g⟩
theorem Cm.sub {G : Nat} {x y k : Int} (c : Cm G x y k) (h : y ≤ x) : Cm G (x - y) y k := ⟨by omega, c.y0, c.k0, by rw [Int.gcd_sub_self_left]; exact c.g⟩
abbrev S3 (p : Int × Int × Int) : L2.St := [some (.int p.1), some (.int p.2.1), some (.int p.2.2)]
theorem p_l_common {K : PySem.W.Frag} {vs : List V} {H : Hp} {Q : VK} {E : XK} (h : spCommon vs H Q E) : t_l_common K { nx := fun _ H' => Q .non H', rt := Q } (start N_l_common vs) H := by
  obtain ⟨a, b, rfl, ha, hb, bb, q⟩ := h
  have gb := gcdBits (a := a) (by omega : b ≠ 0) bb
  unfold Bits at gb
  rw [Int.natAbs_natCast] at gb
  have gp : 0 < Int.gcd a b := Int.gcd_pos_of_ne_zero_right a (by omega)
  generalize hG : Int.gcd a b = G at *
  unfold t_l_common
  walk_at "go"
  refine w_while S3 (fun p H' => H = H' ∧ Cm G p.1 p.2.1 p.2.2) (fun p => (p.1 + p.2.1).toNat) (a, b, 0) rfl ⟨rfl, show Cm G a b 0 from ⟨ha, by omega, by decide, by rw [hG]; exact Nat.mul_one _⟩⟩ ?_
  rintro ⟨x, y, k⟩ H' ⟨rfl, c⟩
  dsimp only [S3] at c ⊢
  walk_at "go"
  refine if_2 (fun hx => ?_) (fun hx => ?_)
  · walk_at "go"
    refine if_2 (fun hy => ?_) (fun hy => ?_)
    · refine w_turn ?_
      walk_at "go"
      -- both even
      refine w_while S3 (fun p H' => H = H' ∧ Cm G p.1 p.2.1 p.2.2 ∧ 0 < p.1 ∧ 0 < p.2.1 ∧ p.1 + p.2.1 ≤ x + y) (fun p => p.1.toNat) (x, y, k) rfl ⟨rfl, c, hx, hy, Int.le_refl _⟩ ?_
      rintro ⟨x1, y1, k1⟩ H' ⟨rfl, c1, hx1, hy1, hs1⟩
      dsimp only [S3] at c1 hx1 hy1 hs1 ⊢
      walk_at "go"
      have nx : ¬ (x1 % 2 = 0 ∧ y1 % 2 = 0) → (tSeq (tWhile (tTest (tOp rEq (tOp rModI (tVar 0) (tC (.int 2))) (tC (.int 0)))) (tAsg (tOp rShrI (tVar 0) (tC (.int 1))) (gName 0)))
        (tSeq (tWhile (tTest (tOp rEq (tOp rModI (tVar 1) (tC (.int 2))) (tC (.int 0)))) (tAsg (tOp rShrI (tVar 1) (tC (.int 1))) (gName 1)))
        (tSeq (tIfS (tTest (tOp rLtI (tVar 0) (tVar 1))) (tPar 0 1 (tCons (tVar 1) (tCons (tVar 0) tNil))) tNext)
        (tAsg (tOp rSubI (tVar 0) (tVar 1)) (gName 0)))))
        { nx := fun σ' H'_1 => ∃ a', σ' = S3 a' ∧ (H = H'_1 ∧ Cm G a'.1 a'.2.1 a'.2.2) ∧ (a'.1 + a'.2.1).toNat < (x + y).toNat, rt := Q, bk := tRet (tOp rShlI (tOp rAddI (tVar 0) (tVar 1)) (tVar 2)) { nx := fun _ H' => Q .non H', rt := Q }, ct := fun σ' H'_1 => ∃ a', σ' = S3 a' ∧ (H = H'_1 ∧ Cm G a'.1 a'.2.1 a'.2.2) ∧ (a'.1 + a'.2.1).toNat < (x + y).toNat } (S3 (x1, y1, k1)) H := by
        intro hn
        walk_at "go"
        refine w_while S3 (fun p H' => H = H' ∧ Cm G p.1 p.2.1 p.2.2 ∧ 0 < p.1 ∧ 0 < p.2.1 ∧ p.1 + p.2.1 ≤ x + y ∧ ¬ (p.1 % 2 = 0 ∧ p.2.1 % 2 = 0)) (fun p => p.1.toNat) (x1, y1, k1) rfl ⟨rfl, c1, hx1, hy1, hs1, hn⟩ ?_
        rintro ⟨x2, y2, k2⟩ H' ⟨rfl, c2, hx2, hy2, hs2, hn2⟩
        dsimp only [S3] at c2 hx2 hy2 hs2 hn2 ⊢
        walk_at "go"
        refine if_2 (fun h => ?_) (fun h => ?_)
        · have e := V.int.inj h
          refine w_turn ?_
          walk_at "go"
          rw [half_pow]
          exact ⟨(x2 / 2, y2, k2), rfl, ⟨rfl, c2.left e (fun z => hn2 ⟨e, z⟩), by show 0 < x2 / 2; omega, hy2, by show x2 / 2 + y2 ≤ _; omega, fun z => hn2 ⟨e, z.2⟩⟩, by show (x2 / 2).toNat < x2.toNat; omega⟩
        · have e : ¬ x2 % 2 = 0 := fun z => h (by rw [z])
          walk_at "go"
          refine w_while S3 (fun p H' => H = H' ∧ Cm G p.1 p.2.1 p.2.2 ∧ 0 < p.1 ∧ 0 < p.2.1 ∧ p.1 + p.2.1 ≤ x + y ∧ ¬ p.1 % 2 = 0) (fun p => p.2.1.toNat) (x2, y2, k2) rfl ⟨rfl, c2, hx2, hy2, hs2, e⟩ ?_
          rintro ⟨x3, y3, k3⟩ H' ⟨rfl, c3, hx3, hy3, hs3, hn3⟩
          dsimp only [S3] at c3 hx3 hy3 hs3 hn3 ⊢
          walk_at "go"
          refine if_2 (fun h => ?_) (fun h => ?_)
          · have e := V.int.inj h
            refine w_turn ?_
            walk_at "go"
            rw [half_pow]
            exact ⟨(x3, y3 / 2, k3), rfl, ⟨rfl, c3.right hn3 e, hx3, by show 0 < y3 / 2; omega, by show x3 + y3 / 2 ≤ _; omega, hn3⟩, by show (y3 / 2).toNat < y3.toNat; omega⟩
          · walk_at "go"
            refine if_2 (fun h => ?_) (fun h => ?_)
            · walk_at "go"
              refine ⟨_, _, rfl, ?_⟩
              walk_at "go"
              exact ⟨(y3 - x3, x3, k3), rfl, ⟨rfl, c3.swap.sub (by omega)⟩, by show (y3 - x3 + x3).toNat < (x + y).toNat; omega⟩
            · walk_at "go"
              exact ⟨(x3 - y3, y3, k3), rfl, ⟨rfl, c3.sub (by omega)⟩, by show (x3 - y3 + y3).toNat < (x + y).toNat; omega⟩
      refine if_2 (fun h => ?_) (fun h => ?_)
      · have ex := V.int.inj h
        walk_at "go"
        refine if_2 (fun h => ?_) (fun h => ?_)
        · have ey := V.int.inj h
          refine w_turn ?_
          walk_at "go"
          rw [half_pow, half_pow]
          exact ⟨(x1 / 2, y1 / 2, k1 + 1), rfl, ⟨rfl, c1.both ex ey, by show 0 < x1 / 2; omega, by show 0 < y1 / 2; omega, by show x1 / 2 + y1 / 2 ≤ _; omega⟩, by show (x1 / 2).toNat < x1.toNat; omega⟩
        · exact nx fun z => h (by rw [z.2])
      · walk_at "go"
        exact nx fun z => h (by rw [z.1])
    · have ey : y = 0 := by have := c.y0; omega
      subst ey
      walk_at "go"
      have e := c.g
      rw [Int.gcd_zero] at e
      have hxx : x + 0 = x := by omega
      have hk := c.k0
      obtain ⟨n, rfl⟩ := Int.eq_ofNat_of_zero_le hk
      rw [Int.toNat_natCast] at e
      have pn : 0 < 2 ^ n := Nat.pow_pos (by decide)
      have h1 : x.natAbs ≤ G := by rw [← e]; exact Nat.le_mul_of_pos_right _ pn
      have h2 : 2 ^ n ≤ G := by rw [← e]; exact Nat.le_mul_of_pos_left _ (by omega)
      have h3 : n < 9000 := by
        rcases Nat.lt_or_ge n 9000 with h | h
        · exact h
        · have := Nat.pow_le_pow_right (n := 2) (by decide) h
          omega
      refine w_shlI (shl_ok (n := 9000) (by omega) (by omega)) ?_
      rw [Int.toNat_natCast, hxx]
      have e2 : x * 2 ^ n = (G : Int) := by
        rw [← e, Int.natCast_mul, PySem.W.kbt_cast]
        congr 1; omega
      rw [e2]
      exact q
  · have ex : x = 0 := by have := c.x0; omega
    subst ex
    walk_at "go"
    have e := c.g
    rw [Int.zero_gcd] at e
    have hxx : 0 + y = y := by omega
    have hk := c.k0
    have hy0 := c.y0
    obtain ⟨n, rfl⟩ := Int.eq_ofNat_of_zero_le hk
    rw [Int.toNat_natCast] at e
    have pn : 0 < 2 ^ n := Nat.pow_pos (by decide)
    have h1 : y.natAbs ≤ G := by rw [← e]; exact Nat.le_mul_of_pos_right _ pn
    have h0 : 0 < y.natAbs := by
      rcases Nat.eq_zero_or_pos y.natAbs with h | h
      · rw [h, Nat.zero_mul] at e; omega
      · exact h
    have h2 : 2 ^ n ≤ G := by rw [← e]; exact Nat.le_mul_of_pos_left _ h0
    have h3 : n < 9000 := by
      rcases Nat.lt_or_ge n 9000 with h | h
      · exact h
      · have := Nat.pow_le_pow_right (n := 2) (by decide) h
        omega
    refine w_shlI (shl_ok (n := 9000) (by omega) (by omega)) ?_
    rw [Int.toNat_natCast, hxx]
    have e2 : y * 2 ^ n = (G : Int) := by
      rw [← e, Int.natCast_mul, PySem.W.kbt_cast]
      congr 1; omega
    rw [e2]
    exact q

theorem p_l_right_len {vs : List V} {H : Hp} {Q : VK} {E : XK} (h : spRight vs H Q E) : vs.length = 2 := by
  obtain ⟨a, b, rfl, _⟩ := h; rfl
theorem Bits.mono {m n : Nat} {i : Int} (h : Bits m i) (hn : m ≤ n) : Bits n i := Nat.lt_of_lt_of_le h (Nat.pow_le_pow_right (by decide) hn)
theorem Bits.le {n : Nat} {i j : Int} (h : Bits n j) (hn : i.natAbs ≤ j.natAbs) : Bits n i := Nat.lt_of_le_of_lt hn h
theorem p_l_right {K : PySem.W.Frag} {vs : List V} {H : Hp} {Q : VK} {E : XK} (h : spRight vs H Q E) : t_l_right K { nx := fun _ H' => Q .non H', rt := Q } (start N_l_right vs) H := by
  obtain ⟨a, b, rfl, hb, ba, bb, q⟩ := h
  have b9 : Bits 9000 b := bb.mono (by decide)
  have d0 := Mth.pd_pos (a := a) hb
  have cr := Mth.pn_cross (a := a) hb
  have co := Mth.pair_cop (a := a) hb
  have bn : Bits 400 (Mth.pn a b) := ba.le (Mth.pn_le hb)
  have bd : Bits 400 (Mth.pd a b) := bb.le (Mth.pd_le hb)
  unfold t_l_right
  walk_at "go"
  refine ⟨a, b, rfl, hb, b9, fun p hp => ?_⟩
  walk_at "go"
  refine ⟨a, b, rfl, hb, b9, fun p2 hp2 => ?_⟩
  have h1 : (upd (upd H p (.tup [.int (Mth.pn a b), .int (Mth.pd a b)])) p2 (.tup [.int (Mth.pn a b), .int (Mth.pd a b)])) p = some (.tup [.int (Mth.pn a b), .int (Mth.pd a b)]) := by walk_at "heap"
  have s1 : Same H (upd (upd H p (.tup [.int (Mth.pn a b), .int (Mth.pd a b)])) p2 (.tup [.int (Mth.pn a b), .int (Mth.pd a b)])) := same_in (same_new hp) hp2
  refine w_neD_same (dpP h1) (dpP upd_same) rfl ?_
  clear hp2 hp
  generalize (upd (upd H p (.tup [.int (Mth.pn a b), .int (Mth.pd a b)])) p2 (.tup [.int (Mth.pn a b), .int (Mth.pd a b)])) = H1 at *
  generalize Mth.pn a b = n at *
  generalize Mth.pd a b = d at *
  walk_at "go"
  -- no item is of another kind
  refine ⟨p, rfl, ⟨_, sqT h1⟩, fun L hL => lc_tup (K := K) (xs := [.int n, .int d]) (fun i H' => Same H1 H' ∧ H' L = some (.lst [])) ⟨same_new hL, upd_same⟩ (fun i H' _ P => sqT (P.1 _ _ h1)) ?_ ?_⟩
  · rintro i x H' hx ⟨sm, hl⟩
    obtain ⟨z, rfl⟩ : ∃ z, x = V.int z := by
      rcases i with _ | _ | i
      · exact ⟨n, (Option.some.inj hx).symm⟩
      · exact ⟨d, (Option.some.inj hx).symm⟩
      · simp at hx
    walk_at "go"
    refine ⟨rfl, ?_⟩
    walk_at "go"
    exact ⟨sm, hl⟩
  · rintro H' ⟨sm, hl⟩
    walk_at "go"
    refine ⟨Nat.zero_le _, fun L2 hL2 => ?_⟩
    refine w_neD_same (dpN (keep hl hL2)) (dpN upd_same) rfl ?_
    have h2 := keep (u := .lst []) (sm _ _ h1) hL2
    have s2 : Same H (upd H' L2 (.lst [])) := (s1.trans sm).trans (same_new hL2)
    clear hl hL2
    generalize upd H' L2 (.lst []) = H2 at *
    walk_at "go"
    refine if_f (decide_eq_false (by omega)) ?_
    walk_at "go"
    refine ⟨p, n, d, rfl, h2, ?_⟩
    rw [decide_eq_true (by omega), decide_eq_true co]
    walk_at "go"
    refine w_mulX (mulx_ok bn bb (by decide)) ?_
    walk_at "go"
    refine w_mulX (mulx_ok ba bd (by decide)) ?_
    walk_at "go"
    rw [decide_eq_true (by rw [cr])]
    walk_at "go"
    refine ⟨_, d, rfl, by omega, d0, bd.mono (by decide), ?_⟩
    walk_at "go"
    have e1 : Int.gcd (n.natAbs : Int) d = Int.gcd n d := by
      unfold Int.gcd; rw [Int.natAbs_natCast]
    rw [e1, co]
    exact q _ s2
theorem den_ok {K : PySem.W.Frag} {σ : L2.St} {H : Hp} {Q : VK} {l : Addr} (hσ : σ[2]? = some (some (.ref l))) (hs : Src H l) (q : ∀ d H', d ≠ 0 → Bits 200 d → Dr l H H' → Q (.int d) H') :
    tOrT K (tCall spFar [] E0 (tCons (tVar 2) tNil)) (tOp rAddI (tC (.int 1)) (tCall spDraw [] E0 (tCons (tVar 2) (tCons (tC (.int 40)) tNil)))) σ H Q := by
  refine w_orT (w_call (w_cons (w_var hσ (w_nil ?_))))
  refine ⟨l, rfl, hs, fun n H1 bn d1 => ?_⟩
  walk_at "go"
  refine if_b (fun h => ?_) (fun h => ?_)
  · exact q n H1 (by simpa using h) bn d1
  · refine w_op (w_con (w_call (w_cons (w_var hσ (w_cons (w_con (w_nil ?_)))))))
    refine ⟨l, 40, rfl, d1.src, by decide, by decide, fun d H2 e0 e1 d2 => ?_⟩
    walk_at "go"
    refine q _ _ (by omega) ?_ (d1.trans d2)
    have : (50 : Nat) < 2 ^ 200 := by decide
    unfold Bits
    omega
theorem more_ok {K : PySem.W.Frag} {σ : L2.St} {H : Hp} {Q : VK} {l : Addr} (hσ : σ[2]? = some (some (.ref l))) (hs : Src H l) (q : ∀ d H', d ≠ 0 → Bits 200 d → Dr l H H' → Q (.int d) H') :
    tOp (rIxL K) (tLst (tCons (tC (.int 1)) (tCons (tC (.int 1)) (tCons (tOrT K (tCall spFar [] E0 (tCons (tVar 2) tNil)) (tC (.int 1))) tNil)))) (tCall spDraw [] E0 (tCons (tVar 2) (tCons (tC (.int 3)) tNil))) σ H Q := by
  have b1 : Bits 200 1 := by unfold Bits; decide
  have go : ∀ n H1, n ≠ 0 → Bits 200 n → Dr l H H1 → ∀ p, H1 p = none → tCall spDraw [] E0 (tCons (tVar 2) (tCons (tC (.int 3)) tNil)) σ (upd H1 p (.lst [.int 1, .int 1, .int n])) fun y H2 => rIxL K (.ref p) y H2 Q := fun n H1 n0 bn d1 p hp => by
    refine w_call (w_cons (w_var hσ (w_cons (w_con (w_nil ?_)))))
    have hlp : p ≠ l := fun e => by
      obtain ⟨x, y, z, h⟩ := d1.src
      rw [e, h] at hp; cases hp
    refine ⟨l, 3, rfl, (d1.new hp).src, by decide, by decide, fun d H2 e0 e1 d2 => ?_⟩
    have hl := d2.keep p _ hlp upd_same
    have dd := (d1.new hp).trans d2
    rcases (by omega : d = 0 ∨ d = 1 ∨ d = 2) with h | h | h <;> subst h <;> refine w_ixL (sqL hl) rfl ?_
    · exact q 1 _ (by decide) b1 dd
    · exact q 1 _ (by decide) b1 dd
    · exact q n _ n0 bn dd
  refine w_op (w_lst (w_cons (w_con (w_cons (w_con (w_cons (w_orT (w_call (w_cons (w_var hσ (w_nil ?_)))))))))))
  refine ⟨l, rfl, hs, fun n H1 bn d1 => ?_⟩
  walk_at "go"
  refine if_b (fun h => ?_) (fun h => ?_)
  · walk_at "go"
    exact ⟨by show 3 ≤ sizeLine; decide, go n H1 (by simpa using h) bn d1⟩
  · walk_at "go"
    exact ⟨by show 3 ≤ sizeLine; decide, go 1 H1 (by decide) b1 d1⟩
theorem ints_cut {ns : List Int} {lo hi : Option Int} : ∀ x ∈ cutV (ns.map V.int) lo hi, ∃ z, x = V.int z := fun x hx => by
  unfold cutV at hx
  have h1 := List.mem_of_mem_drop (List.mem_of_mem_take hx)
  obtain ⟨z, _, e⟩ := List.mem_map.mp h1
  exact ⟨z, e.symm⟩
theorem p_law_len {K : PySem.W.Frag} {vs : List V} {H : Hp} {Q : VK} {E : XK} (h : spLaw K vs H Q E) : vs.length = 1 := by
  obtain ⟨a, b, rfl, _⟩ := h; rfl
theorem p_law {K : PySem.W.Frag} {vs : List V} {H : Hp} {Q : VK} {E : XK} (h : spLaw K vs H Q E) : t_law K { nx := fun _ H' => Q .non H', rt := Q } (start N_law vs) H := by
  obtain ⟨a, ns, rfl, hS, hlen, q⟩ := h
  unfold t_law
  walk_at "go"
  refine ⟨a, ns, 0, rfl, hS, fun n0 => ?_⟩
  walk_at "go"
  refine ⟨by show 1 ≤ sizeLine; decide, fun L1 hL1 => ?_⟩
  walk_at "go"
  refine w_slL ((same_new hL1).seq hS) fun L2 hL2 => ?_
  have cl := cutV_length (ns.map V.int) (some 1) (some 20)
  rw [List.length_map] at cl
  refine w_cat (keep upd_same hL2) upd_same (Nat.le_trans (by rw [List.length_singleton]; omega : _ ≤ 1000) (by decide)) fun L hL => ?_
  have hi : ∀ x ∈ [V.int n0] ++ cutV (ns.map V.int) (some 1) (some 20), ∃ z, x = V.int z := fun x hx => by
    rcases List.mem_append.mp hx with h | h
    · exact ⟨n0, by simpa using h⟩
    · exact ints_cut x h
  generalize [V.int n0] ++ cutV (ns.map V.int) (some 1) (some 20) = xs at *
  have h0 : (upd (upd (upd H L1 (.lst [.int n0])) L2 (.lst (cutV (ns.map V.int) (some 1) (some 20)))) L (.lst xs)) L = some (.lst xs) := upd_same
  generalize upd (upd (upd H L1 (.lst [.int n0])) L2 (.lst (cutV (ns.map V.int) (some 1) (some 20)))) L (.lst xs) = H0 at *
  refine ⟨L, rfl, ⟨_, sqL h0⟩, for_list (K := K) (a := L) (xs := xs) (fun i σ H' => ∃ y1 y2 y3 y4 y5, σ = [some (.ref a), y1, y2, y3, y4, y5] ∧ Same H0 H') ⟨none, none, none, none, none, rfl, Same.refl _⟩ (fun i σ H' _ ⟨_, _, _, _, _, _, s⟩ => sqL (s _ _ h0)) ?_ ?_⟩
  · rintro i x σ H1 hx ⟨y1, y2, y3, y4, y5, rfl, s1⟩
    obtain ⟨z, rfl⟩ := hi x (List.mem_of_getElem? hx)
    walk_at "go"
    refine ⟨z, rfl, fun l H2 hl s2 src => ?_⟩
    have fl : H0 l = none := s1.free hl
    have s02 : Same H0 H2 := s1.trans s2
    walk_at "go"
    refine ⟨l, rfl, src, fun num H3 bn d3 => ?_⟩
    refine w_seq (w_asg (den_ok (by rfl) d3.src fun den H4 nd bd d4 => ?_))
    refine w_seq (w_asg (more_ok (by rfl) d4.src fun more H5 nm bm d5 => ?_))
    have s05 : Same H0 H5 := (d3.trans (d4.trans d5)).same_of s02 fl
    walk_at "go"
    refine ⟨num, den, rfl, nd, bn.mono (by decide), bd.mono (by decide), fun H6 s6 => ?_⟩
    walk_at "go"
    refine w_mulX (mulx_ok bn bm (by decide)) ?_
    walk_at "go"
    refine w_mulX (mulx_ok bd bm (by decide)) ?_
    walk_at "go"
    refine ⟨_, _, rfl, Int.mul_ne_zero nd nm, wide_lt bn bm, wide_lt bd bm, fun H7 s7 => ?_⟩
    walk_at "go"
    refine ⟨0, den, rfl, nd, by unfold Bits; decide, bd.mono (by decide), fun H8 s8 => ?_⟩
    walk_at "go"
    exact ⟨_, _, _, _, _, rfl, s05.trans (s6.trans (s7.trans s8))⟩
  · rintro σ H1 ⟨y1, y2, y3, y4, y5, rfl, s1⟩
    walk_at "go"
    refine ⟨6, -4, rfl, by decide, by unfold Bits; decide, fun p hp => ?_⟩
    walk_at "go"
    refine ⟨by show 2 ≤ sizeLine; decide, fun p2 hp2 => ?_⟩
    have e1 : Mth.pn 6 (-4) = -3 := by decide +kernel
    have e2 : Mth.pd 6 (-4) = 2 := by decide +kernel
    rw [e1, e2] at hp2 ⊢
    refine w_eqD_same (dpP (keep upd_same hp2)) (dpP upd_same) rfl ?_
    walk_at "go"
    refine ⟨0, -7, rfl, by decide, by unfold Bits; decide, fun p3 hp3 => ?_⟩
    walk_at "go"
    refine ⟨by show 2 ≤ sizeLine; decide, fun p4 hp4 => ?_⟩
    have e3 : Mth.pn 0 (-7) = 0 := by decide +kernel
    have e4 : Mth.pd 0 (-7) = 1 := by decide +kernel
    rw [e3, e4] at hp4 ⊢
    refine w_eqD_same (dpP (keep upd_same hp4)) (dpP upd_same) rfl ?_
    exact q _

def top (i : Nat) : Stmt := PySem.Challenge.pw_sumtold_k01_pairs_in_lowest_terms.main.body.getD i (.Pass ⟨0, 0, 0, 0⟩)
structure Bl (mg : Str → Option Value) : Prop where
  b_abs : mg "abs" = none
  b_bool : mg "bool" = none
  b_int : mg "int" = none
  b_isinstance : mg "isinstance" = none
  b_len : mg "len" = none
  b_range : mg "range" = none
  b_tuple : mg "tuple" = none
section
variable {P : Program} {w : World} {K : PySem.W.Frag} {mg : Str → Option Value} {base : Heap}
abbrev s_is_whole_number : Stmt := top 1
theorem sc_is_whole_number : FnScope N_is_whole_number ["thing"] (defScope s_is_whole_number) := ⟨rfl, rfl, rfl, by decide +kernel, rfl, by decide +kernel, by decide +kernel⟩
theorem ok_is_whole_number (F : ∃ fd, FnP K "is_whole_number" s_is_whole_number (He.ga K "is_whole_number") fd) (gm : mg "is_whole_number" = some (.ref (He.ga K "is_whole_number"))) (B : Bl mg)  : Has P w K mg base "is_whole_number" 1 ["thing"] (spWhole K) := by
  obtain ⟨fd, F⟩ := F
  refine ⟨_, fd, gm, F.kp, FunD.bindsN (ps := ["thing"]) F fun _ _ _ _ _ _ us hl => match us, hl with | [_], _ => rfl, F.ok sc_is_whole_number (fun vs H Q E h => p_is_whole_number_len h) (fun cdv A outer s H vs Q E hr h => ⟨t_is_whole_number K, PSs.nox ?_, p_is_whole_number h⟩)⟩
  have hu := hu_of hr
  exact (pss_one (ps_ret (pe_and (pe_callB call_isi (by rfl) B.b_isinstance (by decide +kernel) (pa_cons (pv 0) (pa_cons (pe_bltn (v := .ty "int") (by rfl) B.b_int (by decide +kernel) rfl) pa_nil))) (pe_one (pe_not (pe_callB call_isi (by rfl) B.b_isinstance (by decide +kernel) (pa_cons (pv 0) (pa_cons (pe_bltn (v := .ty "bool") (by rfl) B.b_bool (by decide +kernel) rfl) pa_nil))))))))

abbrev s_divisor : Stmt := top 2
theorem sc_divisor : FnScope N_divisor ["one", "other"] (defScope s_divisor) := ⟨rfl, rfl, rfl, by decide +kernel, rfl, by decide +kernel, by decide +kernel⟩
theorem ok_divisor (F : ∃ fd, FnP K "divisor" s_divisor (He.ga K "divisor") fd) (gm : mg "divisor" = some (.ref (He.ga K "divisor"))) (B : Bl mg)  : Has P w K mg base "divisor" 1 ["one", "other"] spDivisor := by
  obtain ⟨fd, F⟩ := F
  refine ⟨_, fd, gm, F.kp, FunD.bindsN (ps := ["one", "other"]) F fun _ _ _ _ _ _ us hl => match us, hl with | [_, _], _ => rfl, F.ok sc_divisor (fun vs H Q E h => p_divisor_len h) (fun cdv A outer s H vs Q E hr h => ⟨t_divisor K, PSs.nox ?_, p_divisor h⟩)⟩
  have hu := hu_of hr
  exact (pss_cons (ps_while PassesOwn.never (pt_cmpR op_ne (pv 1) pe_int (nomark _)) (pss_one (ps_par (i := 0) (j := 1) rfl sc_divisor.nd rfl rfl (by decide) rfl rfl (pa_cons (pv 1) (pa_cons (pe_op op_mod (pv 0) (pv 1)) pa_nil)) (by rfl))))
    (pss_one (ps_ret (pv 0))))

abbrev s_pair : Stmt := top 3
theorem sc_pair : FnScope N_pair ["num", "den"] (defScope s_pair) := ⟨rfl, rfl, rfl, by decide +kernel, rfl, by decide +kernel, by decide +kernel⟩
theorem ok_pair (F : ∃ fd, FnP K "pair" s_pair (He.ga K "pair") fd) (gm : mg "pair" = some (.ref (He.ga K "pair"))) (B : Bl mg) (h_divisor : Has P w K mg base "divisor" 1 ["one", "other"] spDivisor) : Has P w K mg base "pair" 2 ["num", "den"] spPair := by
  obtain ⟨fd, F⟩ := F
  refine ⟨_, fd, gm, F.kp, FunD.bindsN (ps := ["num", "den"]) F fun _ _ _ _ _ _ us hl => match us, hl with | [_, _], _ => rfl, F.ok sc_pair (fun vs H Q E h => p_pair_len h) (fun cdv A outer s H vs Q E hr h => ⟨t_pair K, PSs.nox ?_, p_pair h⟩)⟩
  have hu := hu_of hr
  exact (pss_cons (ps_if (pt_cmpR op_lt (pv 1) pe_int (nomark _)) (pss_cons (ps_set (i := 0) sc_pair.nd rfl (Or.inl rfl) (pe_op op_sub pe_int (pv 0)))
      (pss_one (ps_set (i := 1) sc_pair.nd rfl (Or.inl rfl) (pe_op op_sub pe_int (pv 1))))) pss_nil)
    (pss_cons (ps_set (i := 2) sc_pair.nd rfl (Or.inl rfl) (pe_has h_divisor (hr.mono (by decide)) (by rfl) (pa_cons (pe_callB call_abs (by rfl) B.b_abs (by decide +kernel) (pa_cons (pv 0) pa_nil)) (pa_cons (pv 1) pa_nil))))
    (pss_one (ps_ret (pe_tup (pa_cons (pe_op op_fdivW (pv 0) (pv 2)) (pa_cons (pe_op op_fdivW (pv 1) (pv 2)) pa_nil)))))))

abbrev s_is_pair : Stmt := top 4
theorem sc_is_pair : FnScope N_is_pair ["thing"] (defScope s_is_pair) := ⟨rfl, rfl, rfl, by decide +kernel, rfl, by decide +kernel, by decide +kernel⟩
theorem ok_is_pair (F : ∃ fd, FnP K "is_pair" s_is_pair (He.ga K "is_pair") fd) (gm : mg "is_pair" = some (.ref (He.ga K "is_pair"))) (B : Bl mg) (h_divisor : Has P w K mg base "divisor" 1 ["one", "other"] spDivisor) (h_is_whole_number : Has P w K mg base "is_whole_number" 1 ["thing"] (spWhole K)) : Has P w K mg base "is_pair" 2 ["thing"] (spIsPair K) := by
  obtain ⟨fd, F⟩ := F
  refine ⟨_, fd, gm, F.kp, FunD.bindsN (ps := ["thing"]) F fun _ _ _ _ _ _ us hl => match us, hl with | [_], _ => rfl, F.ok sc_is_pair (fun vs H Q E h => p_is_pair_len h) (fun cdv A outer s H vs Q E hr h => ⟨t_is_pair K, PSs.nox ?_, p_is_pair h⟩)⟩
  have hu := hu_of hr
  exact (pss_cons (ps_if (PW.pt (pw_or (pt_not (pt_val (pe_callB call_isi (by rfl) B.b_isinstance (by decide +kernel) (pa_cons (pv 0) (pa_cons (pe_bltn (v := .ty "tuple") (by rfl) B.b_tuple (by decide +kernel) rfl) pa_nil))))) (pw_or1 (pt_cmpR op_ne (pe_callB call_len_seq (by rfl) B.b_len (by decide +kernel) (pa_cons (pv 0) pa_nil)) pe_int (nomark _))))) (pss_one (ps_ret pe_bl)) pss_nil)
    (pss_cons (ps_if (PW.pt (pw_or (pt_not (pt_val (pe_has h_is_whole_number (hr.mono (by decide)) (by rfl) (pa_cons (pe_ix ix_tup (pv 0) pe_int (fun _ _ => rfl)) pa_nil)))) (pw_or (pt_not (pt_val (pe_has h_is_whole_number (hr.mono (by decide)) (by rfl) (pa_cons (pe_ix ix_tup (pv 0) pe_int (fun _ _ => rfl)) pa_nil)))) (pw_or1 (pt_cmpR op_lt (pe_ix ix_tup (pv 0) pe_int (fun _ _ => rfl)) pe_int (nomark _)))))) (pss_one (ps_ret pe_bl)) pss_nil)
    (pss_one (ps_ret (pe_cmpR op_eq (pe_has h_divisor (hr.mono (by decide)) (by rfl) (pa_cons (pe_callB call_abs (by rfl) B.b_abs (by decide +kernel) (pa_cons (pe_ix ix_tup (pv 0) pe_int (fun _ _ => rfl)) pa_nil)) (pa_cons (pe_ix ix_tup (pv 0) pe_int (fun _ _ => rfl)) pa_nil))) pe_int (nomark _))))))

abbrev s_l_cell_at : Stmt := top 6
theorem sc_l_cell_at : FnScope N_l_cell_at ["_law_script", "_law_k"] (defScope s_l_cell_at) := ⟨rfl, rfl, rfl, by decide +kernel, rfl, by decide +kernel, by decide +kernel⟩
theorem ok_l_cell_at (F : ∃ fd, FnP K "_law_cell_at" s_l_cell_at (He.ga K "_law_cell_at") fd) (gm : mg "_law_cell_at" = some (.ref (He.ga K "_law_cell_at"))) (B : Bl mg)  : Has P w K mg base "_law_cell_at" 1 ["_law_script", "_law_k"] (spCellAt K) := by
  obtain ⟨fd, F⟩ := F
  refine ⟨_, fd, gm, F.kp, FunD.bindsN (ps := ["_law_script", "_law_k"]) F fun _ _ _ _ _ _ us hl => match us, hl with | [_, _], _ => rfl, F.ok sc_l_cell_at (fun vs H Q E h => p_l_cell_at_len h) (fun cdv A outer s H vs Q E hr h => ⟨t_l_cell_at K, PSs.nox ?_, p_l_cell_at h⟩)⟩
  have hu := hu_of hr
  exact (pss_cons (ps_if (pt_cmpR op_lt (pv 1) (pe_callB call_len_seq (by rfl) B.b_len (by decide +kernel) (pa_cons (pv 0) pa_nil)) (nomark _)) (pss_one (ps_ret (pe_ix ix_list (pv 0) (pv 1) (fun _ _ => rfl)))) pss_nil)
    (pss_one (ps_ret pe_int)))

abbrev s_l_begin : Stmt := top 7
theorem sc_l_begin : FnScope N_l_begin ["_law_cell"] (defScope s_l_begin) := ⟨rfl, rfl, rfl, by decide +kernel, rfl, by decide +kernel, by decide +kernel⟩
theorem ok_l_begin (F : ∃ fd, FnP K "_law_begin" s_l_begin (He.ga K "_law_begin") fd) (gm : mg "_law_begin" = some (.ref (He.ga K "_law_begin"))) (B : Bl mg)  : Has P w K mg base "_law_begin" 1 ["_law_cell"] spBegin := by
  obtain ⟨fd, F⟩ := F
  refine ⟨_, fd, gm, F.kp, FunD.bindsN (ps := ["_law_cell"]) F fun _ _ _ _ _ _ us hl => match us, hl with | [_], _ => rfl, F.ok sc_l_begin (fun vs H Q E h => p_l_begin_len h) (fun cdv A outer s H vs Q E hr h => ⟨t_l_begin K, PSs.nox ?_, p_l_begin h⟩)⟩
  have hu := hu_of hr
  exact (pss_one (ps_ret (pe_lst (pa_cons (pe_ix ix_list (pe_lst (pa_cons pe_int (pa_cons (pv 0) pa_nil))) (pe_callTy call_int1 (by rfl) B.b_int (by decide +kernel) (pa_cons (pe_cmpR op_ge (pv 0) (pe_op op_pow pe_int pe_int) (nomark _)) pa_nil)) (fun _ _ => rfl)) (pa_cons (pe_op op_mod (pv 0) pe_int) (pa_cons pe_int pa_nil))))))

abbrev s_l_draw : Stmt := top 8
theorem sc_l_draw : FnScope N_l_draw ["_law_source", "_law_most"] (defScope s_l_draw) := ⟨rfl, rfl, rfl, by decide +kernel, rfl, by decide +kernel, by decide +kernel⟩
theorem ok_l_draw (F : ∃ fd, FnP K "_law_draw" s_l_draw (He.ga K "_law_draw") fd) (gm : mg "_law_draw" = some (.ref (He.ga K "_law_draw"))) (B : Bl mg)  : Has P w K mg base "_law_draw" 1 ["_law_source", "_law_most"] spDraw := by
  obtain ⟨fd, F⟩ := F
  refine ⟨_, fd, gm, F.kp, FunD.bindsN (ps := ["_law_source", "_law_most"]) F fun _ _ _ _ _ _ us hl => match us, hl with | [_, _], _ => rfl, F.ok sc_l_draw (fun vs H Q E h => p_l_draw_len h) (fun cdv A outer s H vs Q E hr h => ⟨t_l_draw K, PSs.nox ?_, p_l_draw h⟩)⟩
  have hu := hu_of hr
  exact (pss_cons (ps_if (pt_cmpR op_gt (pe_ix ix_list (pv 0) pe_int (fun _ _ => rfl)) pe_int (nomark _)) (pss_cons (ps_set (i := 2) sc_l_draw.nd rfl (Or.inl rfl) (pe_op op_mod (pe_ix ix_list (pv 0) pe_int (fun _ _ => rfl)) (pv 1)))
      (pss_cons (ps_asg (pe_op op_fdivW (pe_ix ix_list (pv 0) pe_int (fun _ _ => rfl)) (pv 1)) (pg_sub (pv 0) pe_int set_list))
      (pss_one (ps_ret (pv 2))))) pss_nil)
    (pss_cons (ps_asg (pe_op op_add (pe_ix ix_list (pv 0) pe_int (fun _ _ => rfl)) pe_int) (pg_sub (pv 0) pe_int set_list))
    (pss_cons (ps_set (i := 3) sc_l_draw.nd rfl (Or.inl rfl) (pe_op op_mod (pe_op op_mul (pe_op op_add (pe_op op_add (pe_ix ix_list (pv 0) pe_int (fun _ _ => rfl)) (pe_op op_mul pe_int (pe_ix ix_list (pv 0) pe_int (fun _ _ => rfl)))) pe_int) pe_int) pe_int))
    (pss_cons (ps_set (i := 3) sc_l_draw.nd rfl (Or.inl rfl) (pe_op op_mod (pe_op op_mulX (pv 3) (pe_op op_add (pe_op op_fdivW (pv 3) pe_int) pe_int)) pe_int))
    (pss_one (ps_ret (pe_op op_mod (pe_op op_mod (pe_op op_mulX (pv 3) (pe_op op_add (pe_op op_fdivW (pv 3) pe_int) pe_int)) pe_int) (pv 1))))))))

abbrev s_l_far : Stmt := top 9
theorem sc_l_far : FnScope N_l_far ["_law_source"] (defScope s_l_far) := ⟨rfl, rfl, rfl, by decide +kernel, rfl, by decide +kernel, by decide +kernel⟩
theorem ok_l_far (F : ∃ fd, FnP K "_law_far" s_l_far (He.ga K "_law_far") fd) (gm : mg "_law_far" = some (.ref (He.ga K "_law_far"))) (B : Bl mg) (h_l_draw : Has P w K mg base "_law_draw" 1 ["_law_source", "_law_most"] spDraw) : Has P w K mg base "_law_far" 2 ["_law_source"] spFar := by
  obtain ⟨fd, F⟩ := F
  refine ⟨_, fd, gm, F.kp, FunD.bindsN (ps := ["_law_source"]) F fun _ _ _ _ _ _ us hl => match us, hl with | [_], _ => rfl, F.ok sc_l_far (fun vs H Q E h => p_l_far_len h) (fun cdv A outer s H vs Q E hr h => ⟨t_l_far K, PSs.nox ?_, p_l_far h⟩)⟩
  have hu := hu_of hr
  exact (pss_cons (ps_set (i := 1) sc_l_far.nd rfl (Or.inl rfl) (pe_has h_l_draw (hr.mono (by decide)) (by rfl) (pa_cons (pv 0) (pa_cons pe_int pa_nil))))
    (pss_cons (ps_set (i := 2) sc_l_far.nd rfl (Or.inl rfl) (pe_op op_sub (pe_has h_l_draw (hr.mono (by decide)) (by rfl) (pa_cons (pv 0) (pa_cons pe_int pa_nil))) pe_int))
    (pss_cons (ps_set (i := 3) sc_l_far.nd rfl (Or.inl rfl) pe_int)
    (pss_cons (ps_for PassesOwn.never rfl (pi_range1 (by rfl) B.b_range (pa_cons (pe_op op_add pe_int (pe_has h_l_draw (hr.mono (by decide)) (by rfl) (pa_cons (pv 0) (pa_cons pe_int pa_nil)))) pa_nil)) (pg_name (i := 4) sc_l_far.nd rfl (Or.inl rfl)) (pss_one (ps_set (i := 3) sc_l_far.nd rfl (Or.inl rfl) (pe_op op_add (pe_op op_mulX (pv 3) (pe_op op_pow pe_int pe_int)) (pe_has h_l_draw (hr.mono (by decide)) (by rfl) (pa_cons (pv 0) (pa_cons (pe_op op_pow pe_int pe_int) pa_nil)))))))
    (pss_cons (ps_set (i := 5) sc_l_far.nd rfl (Or.inl rfl) (pe_op op_sub (pe_op op_add (pe_op op_shlW pe_int (pe_has h_l_draw (hr.mono (by decide)) (by rfl) (pa_cons (pv 0) (pa_cons pe_int pa_nil)))) (pe_has h_l_draw (hr.mono (by decide)) (by rfl) (pa_cons (pv 0) (pa_cons pe_int pa_nil)))) pe_int))
    (pss_one (ps_ret (pe_ix ix_list (pe_lst (pa_cons (pv 2) (pa_cons (pv 2) (pa_cons (pv 3) (pa_cons (pe_op op_sub pe_int (pv 3)) (pa_cons (pv 5) (pa_cons (pe_op op_sub pe_int (pv 5)) pa_nil))))))) (pv 1) (fun _ _ => rfl)))))))))

abbrev s_l_common : Stmt := top 10
theorem sc_l_common : FnScope N_l_common ["_law_one", "_law_other"] (defScope s_l_common) := ⟨rfl, rfl, rfl, by decide +kernel, rfl, by decide +kernel, by decide +kernel⟩
theorem ok_l_common (F : ∃ fd, FnP K "_law_common" s_l_common (He.ga K "_law_common") fd) (gm : mg "_law_common" = some (.ref (He.ga K "_law_common"))) (B : Bl mg)  : Has P w K mg base "_law_common" 1 ["_law_one", "_law_other"] spCommon := by
  obtain ⟨fd, F⟩ := F
  refine ⟨_, fd, gm, F.kp, FunD.bindsN (ps := ["_law_one", "_law_other"]) F fun _ _ _ _ _ _ us hl => match us, hl with | [_, _], _ => rfl, F.ok sc_l_common (fun vs H Q E h => p_l_common_len h) (fun cdv A outer s H vs Q E hr h => ⟨t_l_common K, PSs.nox ?_, p_l_common h⟩)⟩
  have hu := hu_of hr
  exact (pss_cons (ps_set (i := 2) sc_l_common.nd rfl (Or.inl rfl) pe_int)
    (pss_cons (ps_while PassesOwn.never (PW.pt (pw_and (pt_cmpR op_gt (pv 0) pe_int (nomark _)) (pw_and1 (pt_cmpR op_gt (pv 1) pe_int (nomark _))))) (pss_cons (ps_while PassesOwn.never (PW.pt (pw_and (pt_cmpR op_eq (pe_op op_mod (pv 0) pe_int) pe_int (nomark _)) (pw_and1 (pt_cmpR op_eq (pe_op op_mod (pv 1) pe_int) pe_int (nomark _))))) (pss_cons (ps_set (i := 0) sc_l_common.nd rfl (Or.inl rfl) (pe_op op_shr (pv 0) pe_int))
        (pss_cons (ps_set (i := 1) sc_l_common.nd rfl (Or.inl rfl) (pe_op op_shr (pv 1) pe_int))
        (pss_one (ps_set (i := 2) sc_l_common.nd rfl (Or.inl rfl) (pe_op op_add (pv 2) pe_int))))))
      (pss_cons (ps_while PassesOwn.never (pt_cmpR op_eq (pe_op op_mod (pv 0) pe_int) pe_int (nomark _)) (pss_one (ps_set (i := 0) sc_l_common.nd rfl (Or.inl rfl) (pe_op op_shr (pv 0) pe_int))))
      (pss_cons (ps_while PassesOwn.never (pt_cmpR op_eq (pe_op op_mod (pv 1) pe_int) pe_int (nomark _)) (pss_one (ps_set (i := 1) sc_l_common.nd rfl (Or.inl rfl) (pe_op op_shr (pv 1) pe_int))))
      (pss_cons (ps_if (pt_cmpR op_lt (pv 0) (pv 1) (nomark _)) (pss_one (ps_par (i := 0) (j := 1) rfl sc_l_common.nd rfl rfl (by decide) rfl rfl (pa_cons (pv 1) (pa_cons (pv 0) pa_nil)) (by rfl))) pss_nil)
      (pss_one (ps_set (i := 0) sc_l_common.nd rfl (Or.inl rfl) (pe_op op_sub (pv 0) (pv 1)))))))))
    (pss_one (ps_ret (pe_op op_shlW (pe_op op_add (pv 0) (pv 1)) (pv 2))))))

abbrev s_l_right : Stmt := top 11
theorem sc_l_right : FnScope N_l_right ["_law_num", "_law_den"] (defScope s_l_right) := ⟨rfl, rfl, rfl, by decide +kernel, rfl, by decide +kernel, by decide +kernel⟩
theorem ok_l_right (F : ∃ fd, FnP K "_law_right" s_l_right (He.ga K "_law_right") fd) (gm : mg "_law_right" = some (.ref (He.ga K "_law_right"))) (B : Bl mg) (h_l_common : Has P w K mg base "_law_common" 1 ["_law_one", "_law_other"] spCommon) (h_is_pair : Has P w K mg base "is_pair" 2 ["thing"] (spIsPair K)) (h_pair : Has P w K mg base "pair" 2 ["num", "den"] spPair) : Has P w K mg base "_law_right" 3 ["_law_num", "_law_den"] spRight := by
  obtain ⟨fd, F⟩ := F
  refine ⟨_, fd, gm, F.kp, FunD.bindsN (ps := ["_law_num", "_law_den"]) F fun _ _ _ _ _ _ us hl => match us, hl with | [_, _], _ => rfl, F.ok sc_l_right (fun vs H Q E h => p_l_right_len h) (fun cdv A outer s H vs Q E hr h => ⟨t_l_right K, PSs.nox ?_, p_l_right h⟩)⟩
  have hu := hu_of hr
  exact (pss_cons (ps_set (i := 2) sc_l_right.nd rfl (Or.inl rfl) (pe_has h_pair (hr.mono (by decide)) (by rfl) (pa_cons (pv 0) (pa_cons (pv 1) pa_nil))))
    (pss_cons (ps_if (PW.pt (pw_or (pt_not (pt_val (pe_callB call_isi (by rfl) B.b_isinstance (by decide +kernel) (pa_cons (pv 2) (pa_cons (pe_bltn (v := .ty "tuple") (by rfl) B.b_tuple (by decide +kernel) rfl) pa_nil))))) (pw_or (pt_cmpR op_ne (pe_callB call_len_seq (by rfl) B.b_len (by decide +kernel) (pa_cons (pv 2) pa_nil)) pe_int (nomark _)) (pw_or1 (pt_cmpR (op_neD hr.units) (pv 2) (pe_has h_pair (hr.mono (by decide)) (by rfl) (pa_cons (pv 0) (pa_cons (pv 1) pa_nil))) (nomark _)))))) (pss_one (ps_ret pe_bl)) pss_nil)
    (pss_cons (ps_if (pt_cmpR (op_neD hr.units) (pe_lc (own := [("_law_one", 3)]) (g := (gName 3)) (tt := (tOr (tNot (tB (tCB (rIsi K) (tCons (tVar 3) (tCons (tC (.ty "int")) tNil))))) (tB (tCB (rIsi K) (tCons (tVar 3) (tCons (tC (.ty "bool")) tNil)))))) (te := (tVar 3)) (wi := (iTup K (tVar 2))) rfl sc_l_right.nd (pi_tup (pv 2)) (blkOk_by (own := [("_law_one", 3)]) (N := N_l_right) (sc := defScope s_l_right) (by decide +kernel)) (fun _ _ _ _ _ => (pg_name (i := 3) sc_l_right.nd rfl (Or.inl rfl))) (fun _ _ _ _ _ => (pts_one (PW.pt (pw_or (pt_not (pt_val (pe_callB call_isi (by rfl) B.b_isinstance (by decide +kernel) (pa_cons (pv 3) (pa_cons (pe_bltn (v := .ty "int") (by rfl) B.b_int (by decide +kernel) rfl) pa_nil))))) (pw_or1 (pt_val (pe_callB call_isi (by rfl) B.b_isinstance (by decide +kernel) (pa_cons (pv 3) (pa_cons (pe_bltn (v := .ty "bool") (by rfl) B.b_bool (by decide +kernel) rfl) pa_nil))))))))) (fun _ _ _ _ _ => (pv 3))) (pe_lst pa_nil) (nomark _)) (pss_one (ps_ret pe_bl)) pss_nil)
    (pss_cons (ps_if (PW.pt (pw_or (pt_cmpR op_lt (pe_ix ix_tup (pv 2) pe_int (fun _ _ => rfl)) pe_int (nomark _)) (pw_or1 (pt_cmpR op_notBl (pe_has h_is_pair (hr.mono (by decide)) (by rfl) (pa_cons (pv 2) pa_nil)) pe_bl (nomark _))))) (pss_one (ps_ret pe_bl)) pss_nil)
    (pss_one (ps_ret (pe_and (pe_cmpR op_eq (pe_op op_mulX (pe_ix ix_tup (pv 2) pe_int (fun _ _ => rfl)) (pv 1)) (pe_op op_mulX (pv 0) (pe_ix ix_tup (pv 2) pe_int (fun _ _ => rfl))) (nomark _)) (pe_one (pe_cmpR op_eq (pe_has h_l_common (hr.mono (by decide)) (by rfl) (pa_cons (pe_callB call_abs (by rfl) B.b_abs (by decide +kernel) (pa_cons (pe_ix ix_tup (pv 2) pe_int (fun _ _ => rfl)) pa_nil)) (pa_cons (pe_ix ix_tup (pv 2) pe_int (fun _ _ => rfl)) pa_nil))) pe_int (nomark _))))))))))

abbrev s_law : Stmt := top 12
theorem sc_law : FnScope N_law ["_law_script"] (defScope s_law) := ⟨rfl, rfl, rfl, by decide +kernel, rfl, by decide +kernel, by decide +kernel⟩
theorem ok_law {f : Addr} {fd : FuncData} (F : FnP K "law" s_law f fd) (B : Bl mg) (h_pair : Has P w K mg base "pair" 2 ["num", "den"] spPair) (h_l_cell_at : Has P w K mg base "_law_cell_at" 1 ["_law_script", "_law_k"] (spCellAt K)) (h_l_right : Has P w K mg base "_law_right" 3 ["_law_num", "_law_den"] spRight) (h_l_far : Has P w K mg base "_law_far" 2 ["_law_source"] spFar) (h_l_draw : Has P w K mg base "_law_draw" 1 ["_law_source", "_law_most"] spDraw) (h_l_begin : Has P w K mg base "_law_begin" 1 ["_law_cell"] spBegin) : FnOk P w K mg base CX0 4 f fd ["_law_script"] (spLaw K) := by
  refine F.ok sc_law (fun vs H Q E h => p_law_len h) (fun cdv A outer s H vs Q E hr h => ⟨t_law K, PSs.nox ?_, p_law h⟩)
  have hu := hu_of hr
  exact (pss_cons (ps_for PassesOwn.never rfl (pi_list (pe_op op_cat (pe_lst (pa_cons (pe_has h_l_cell_at (hr.mono (by decide)) (by rfl) (pa_cons (pv 0) (pa_cons pe_int pa_nil))) pa_nil)) (pe_slice sl_list (pv 0) (po_some pe_int) (po_some pe_int)))) (pg_name (i := 1) sc_law.nd rfl (Or.inl rfl)) (pss_cons (ps_set (i := 2) sc_law.nd rfl (Or.inl rfl) (pe_has h_l_begin (hr.mono (by decide)) (by rfl) (pa_cons (pv 1) pa_nil)))
      (pss_cons (ps_set (i := 3) sc_law.nd rfl (Or.inl rfl) (pe_has h_l_far (hr.mono (by decide)) (by rfl) (pa_cons (pv 2) pa_nil)))
      (pss_cons (ps_set (i := 4) sc_law.nd rfl (Or.inl rfl) (pe_orT (pe_has h_l_far (hr.mono (by decide)) (by rfl) (pa_cons (pv 2) pa_nil)) (pe_one (pe_op op_add pe_int (pe_has h_l_draw (hr.mono (by decide)) (by rfl) (pa_cons (pv 2) (pa_cons pe_int pa_nil)))))))
      (pss_cons (ps_set (i := 5) sc_law.nd rfl (Or.inl rfl) (pe_ix ix_list (pe_lst (pa_cons pe_int (pa_cons pe_int (pa_cons (pe_orT (pe_has h_l_far (hr.mono (by decide)) (by rfl) (pa_cons (pv 2) pa_nil)) (pe_one pe_int)) pa_nil)))) (pe_has h_l_draw (hr.mono (by decide)) (by rfl) (pa_cons (pv 2) (pa_cons pe_int pa_nil))) (fun _ _ => rfl)))
      (pss_one (ps_if (PW.pt (pw_or (pt_not (pt_val (pe_has h_l_right (hr.mono (by decide)) (by rfl) (pa_cons (pv 3) (pa_cons (pv 4) pa_nil))))) (pw_or (pt_not (pt_val (pe_has h_l_right (hr.mono (by decide)) (by rfl) (pa_cons (pe_op op_mulX (pv 3) (pv 5)) (pa_cons (pe_op op_mulX (pv 4) (pv 5)) pa_nil))))) (pw_or1 (pt_not (pt_val (pe_has h_l_right (hr.mono (by decide)) (by rfl) (pa_cons pe_int (pa_cons (pv 4) pa_nil))))))))) (pss_one (ps_ret pe_bl)) pss_nil)))))))
    (pss_one (ps_ret (pe_and (pe_cmpR (op_eqD hr.units) (pe_has h_pair (hr.mono (by decide)) (by rfl) (pa_cons pe_int (pa_cons (pe_un un_neg pe_int) pa_nil))) (pe_tup (pa_cons (pe_un un_neg pe_int) (pa_cons pe_int pa_nil))) (nomark _)) (pe_one (pe_cmpR (op_eqD hr.units) (pe_has h_pair (hr.mono (by decide)) (by rfl) (pa_cons pe_int (pa_cons (pe_un un_neg pe_int) pa_nil))) (pe_tup (pa_cons pe_int (pa_cons pe_int pa_nil))) (nomark _)))))))
end

def dd_is_whole_number : He.DefD := ⟨("is_whole_number", none), "is_whole_number", "is_whole_number", defArgs s_is_whole_number, defBody s_is_whole_number, defScope s_is_whole_number, [], []⟩
def dd_divisor : He.DefD := ⟨("divisor", none), "divisor", "divisor", defArgs s_divisor, defBody s_divisor, defScope s_divisor, [], []⟩
def dd_pair : He.DefD := ⟨("pair", none), "pair", "pair", defArgs s_pair, defBody s_pair, defScope s_pair, [], []⟩
def dd_is_pair : He.DefD := ⟨("is_pair", none), "is_pair", "is_pair", defArgs s_is_pair, defBody s_is_pair, defScope s_is_pair, [], []⟩
def dd_l_cell_at : He.DefD := ⟨("_law_cell_at", none), "_law_cell_at", "_law_cell_at", defArgs s_l_cell_at, defBody s_l_cell_at, defScope s_l_cell_at, [], []⟩
def dd_l_begin : He.DefD := ⟨("_law_begin", none), "_law_begin", "_law_begin", defArgs s_l_begin, defBody s_l_begin, defScope s_l_begin, [], []⟩
def dd_l_draw : He.DefD := ⟨("_law_draw", none), "_law_draw", "_law_draw", defArgs s_l_draw, defBody s_l_draw, defScope s_l_draw, [], []⟩
def dd_l_far : He.DefD := ⟨("_law_far", none), "_law_far", "_law_far", defArgs s_l_far, defBody s_l_far, defScope s_l_far, [], []⟩
def dd_l_common : He.DefD := ⟨("_law_common", none), "_law_common", "_law_common", defArgs s_l_common, defBody s_l_common, defScope s_l_common, [], []⟩
def dd_l_right : He.DefD := ⟨("_law_right", none), "_law_right", "_law_right", defArgs s_l_right, defBody s_l_right, defScope s_l_right, [], []⟩
def dd_law : He.DefD := ⟨("law", none), "law", "law", defArgs s_law, defBody s_law, defScope s_law, [], []⟩
def fn : List He.DefD := [dd_is_whole_number, dd_divisor, dd_pair, dd_is_pair, dd_l_cell_at, dd_l_begin, dd_l_draw, dd_l_far, dd_l_common, dd_l_right, dd_law]
def fa : List He.Fa := [.glo "is_whole_number", .glo "divisor", .glo "pair", .glo "is_pair", .glo "_law_cell_at", .glo "_law_begin", .glo "_law_draw", .glo "_law_far", .glo "_law_common", .glo "_law_right", .glo "law", .free "abs", .free "bool", .free "int", .free "isinstance", .free "len", .free "range", .free "tuple"]
def loose : List Str := (["is_whole_number", "divisor", "pair", "is_pair", "_law_cell_at", "_law_begin", "_law_draw", "_law_far", "_law_common", "_law_right"] : List Str)
abbrev R : PySem.W.OpenRow := PySem.W.OpenLaw.row PySem.Challenge.rw_sumtold_k01_pairs_in_lowest_terms
abbrev hk : PySem.W.Hook := He.hookD 4 fa fn
def ob (s : PySem.W.SharedT) : He.AlD := He.obsDG 4 fa fn (HandSHeadRun.getT s)
theorem ob_eq (s : PySem.W.SharedT) : ob s = hk.obs s.abs := He.obsDG_eq (HandSHeadRun.getT_eq s)
theorem run (w : World) : HandSHeadRun.RunEq R (PySem.W.view R.prog [12]) hk ob 2000 loose w := by
  intro os
  kernel_rfl
theorem facts {P : Program} {w : World} {K : PySem.W.Frag} {h : Heap} {mg : Str → Option Value} {f : Addr} (X : K.In h) (G : h.Ns mainGlobals mg) (hfa : mg ("law" : Str) = some (.ref f)) (c : He.SaysD fa fn K) :
    ∃ fd : FuncData, (∀ (s : Shared) (v : Value), BindsTo s fd ⟨[v], []⟩ [("_law_script", v)]) ∧ ∀ base : Heap, K.In base → base.Ns mainGlobals mg → FnOk P w K mg base CX0 4 f fd ["_law_script"] ((spLaw K)) := by
  have F_is_whole_number := c.def_ 0 (d := dd_is_whole_number) rfl
  have g_is_whole_number := He.glo_ok X G (c.fact 0 (f := .glo "is_whole_number") rfl)
  have F_divisor := c.def_ 1 (d := dd_divisor) rfl
  have g_divisor := He.glo_ok X G (c.fact 1 (f := .glo "divisor") rfl)
  have F_pair := c.def_ 2 (d := dd_pair) rfl
  have g_pair := He.glo_ok X G (c.fact 2 (f := .glo "pair") rfl)
  have F_is_pair := c.def_ 3 (d := dd_is_pair) rfl
  have g_is_pair := He.glo_ok X G (c.fact 3 (f := .glo "is_pair") rfl)
  have F_l_cell_at := c.def_ 4 (d := dd_l_cell_at) rfl
  have g_l_cell_at := He.glo_ok X G (c.fact 4 (f := .glo "_law_cell_at") rfl)
  have F_l_begin := c.def_ 5 (d := dd_l_begin) rfl
  have g_l_begin := He.glo_ok X G (c.fact 5 (f := .glo "_law_begin") rfl)
  have F_l_draw := c.def_ 6 (d := dd_l_draw) rfl
  have g_l_draw := He.glo_ok X G (c.fact 6 (f := .glo "_law_draw") rfl)
  have F_l_far := c.def_ 7 (d := dd_l_far) rfl
  have g_l_far := He.glo_ok X G (c.fact 7 (f := .glo "_law_far") rfl)
  have F_l_common := c.def_ 8 (d := dd_l_common) rfl
  have g_l_common := He.glo_ok X G (c.fact 8 (f := .glo "_law_common") rfl)
  have F_l_right := c.def_ 9 (d := dd_l_right) rfl
  have g_l_right := He.glo_ok X G (c.fact 9 (f := .glo "_law_right") rfl)
  have F_law := c.def_ 10 (d := dd_law) rfl
  have g_law := He.glo_ok X G (c.fact 10 (f := .glo "law") rfl)
  have B : Bl mg := ⟨He.free_ok X G (c.fact 11 (f := .free "abs") rfl), He.free_ok X G (c.fact 12 (f := .free "bool") rfl), He.free_ok X G (c.fact 13 (f := .free "int") rfl), He.free_ok X G (c.fact 14 (f := .free "isinstance") rfl), He.free_ok X G (c.fact 15 (f := .free "len") rfl), He.free_ok X G (c.fact 16 (f := .free "range") rfl), He.free_ok X G (c.fact 17 (f := .free "tuple") rfl)⟩
  have e := hfa.symm.trans g_law
  cases e
  obtain ⟨fd, Fl⟩ := F_law
  refine ⟨fd, fun s v => (FunD.bindsA (ps := ["_law_script"]) Fl fun _ _ _ _ _ _ us hl => match us, hl with | [_], _ => rfl) s [v] rfl, fun base _ _ => ?_⟩
  have h_is_whole_number := ok_is_whole_number (P := P) (w := w) (base := base) F_is_whole_number g_is_whole_number B 
  have h_divisor := ok_divisor (P := P) (w := w) (base := base) F_divisor g_divisor B 
  have h_pair := ok_pair (P := P) (w := w) (base := base) F_pair g_pair B h_divisor
  have h_is_pair := ok_is_pair (P := P) (w := w) (base := base) F_is_pair g_is_pair B h_divisor h_is_whole_number
  have h_l_cell_at := ok_l_cell_at (P := P) (w := w) (base := base) F_l_cell_at g_l_cell_at B 
  have h_l_begin := ok_l_begin (P := P) (w := w) (base := base) F_l_begin g_l_begin B 
  have h_l_draw := ok_l_draw (P := P) (w := w) (base := base) F_l_draw g_l_draw B 
  have h_l_far := ok_l_far (P := P) (w := w) (base := base) F_l_far g_l_far B h_l_draw
  have h_l_common := ok_l_common (P := P) (w := w) (base := base) F_l_common g_l_common B 
  have h_l_right := ok_l_right (P := P) (w := w) (base := base) F_l_right g_l_right B h_l_common h_is_pair h_pair
  exact ok_law (P := P) (w := w) (base := base) Fl B h_pair h_l_cell_at h_l_right h_l_far h_l_draw h_l_begin

end Sum
open PySem PySem.W PySem.Calls PyProof.Rows
set_option maxRecDepth 100000 in
set_option maxHeartbeats 0 in
theorem PySem.Challenge.cw_sumtold_k01_pairs_in_lowest_terms_holds : PySem.Challenge.rw_sumtold_k01_pairs_in_lowest_terms.Holds := by
  w_on; o_law
  refine HandSHeadRun.head_any (r := OpenLaw.row PySem.Challenge.rw_sumtold_k01_pairs_in_lowest_terms) (q := view (OpenLaw.row PySem.Challenge.rw_sumtold_k01_pairs_in_lowest_terms).prog [12]) (H := Sum.hk) (ob := Sum.ob) (M := 2000) (loose := Sum.loose) (d := HandSHeadRun.topDef (OpenLaw.row PySem.Challenge.rw_sumtold_k01_pairs_in_lowest_terms).prog 12) (kwd := []) Sum.ob_eq
    (by kernel_rfl) (fun s => by kernel_rfl) Sum.run (by kernel_rfl) (by kernel_rfl) (by kernel_rfl) (by rfl) (by first | assumption | decide +kernel) (by decide +kernel) ⟨rfl, rfl, rfl, rfl, rfl, by decide +kernel⟩ ?hw ?hc
  case hw => w_witness2
  case hc =>
    refine L2.walk_ofE (l := PySem.Challenge.rw_sumtold_k01_pairs_in_lowest_terms) (n := 63) (k := 4) (x := "_law_script") (CX := L2.CX0) rfl (by decide) (by kernel_rfl) ⟨rfl, by decide, by decide⟩ ?F (fun _ _ _ _ z => z)
    intro w mg fa h Y G hmg0
    obtain ⟨K, KX, c⟩ := Y
    have hmg : mg ("law" : PySem.Str) = some (.ref fa) := by
      have e : (HandSHeadRun.topDef (OpenLaw.row PySem.Challenge.rw_sumtold_k01_pairs_in_lowest_terms).prog 12).name = ("law" : PySem.Str) := by kernel_rfl
      rw [← e]
      exact hmg0
    obtain ⟨fd, hb, hF⟩ := Sum.facts (P := (PySem.Challenge.rw_sumtold_k01_pairs_in_lowest_terms).prog) (w := w) KX G hmg c
    exact ⟨K, fd, Sum.spLaw K, KX, hb, fun H a ns hl _ hS => ⟨a, ns, rfl, hS, hl, fun _ => rfl⟩, hF⟩
#print axioms PySem.Challenge.cw_sumtold_k01_pairs_in_lowest_terms_holds
